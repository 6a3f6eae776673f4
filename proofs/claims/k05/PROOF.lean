import PyProof.Rows.All
import Wide.All
import OpenK.AllK
import Wide.FinOn
import HandS.ForMost
import HandS.Zip
import HandS.Gcd
import HandS.Wide
import HandS.TupAny
import HandS.TupLe
import HandS.TupMul
import HandS.IsInst
import HandS.Deep
import HandS.DeepEq
import HandS.SortInts
import HandS.Defaults
import HandS.Style
import HandS.Flow
import HandS.Exc
import HandS.Walk
import HandS.Strs
import HandS.SetFor
import HandS.HeadHook1
import HandS.HeadHook2
import HandS.HeadHook3
import PyProof.ReprRoads
import HandS.Rev
import HandS.WideBits
import HandS.RaiseMore
import KE.GoesEnum
import KE.GoesMore
import KE.GoesZip
import HandS.Text
import HandS.Conv
import HandS.Set
import HandS.Zip0
import KE.KStar
import HandS.Base
import HandS.Star
import HandS.ExcValue
import HandS.Ends
import HandS.HeadEnd
import HandS.HeadHook4
import KE.KStateDown
import HandS.Head0
import HandS.Head1
import HandS.Head2
import HandS.Head3
import PySem.Challenge.RW_backwalks_k05_flows_and_chances_of_rows
set_option Elab.async false
set_option linter.all false
set_option maxRecDepth 100000
set_option maxHeartbeats 0
/-! MI1: the small reader: data, stores, what each construct does. -/
namespace MI
open PySem L2

/-! ### data -/
inductive D where
  | non | bl (b : Bool) | int (i : Int) | str (x : Str)
  | tup (xs : List D)
  | lst (xs : List D)
  | dct (kvs : List (Key × D))
  | loc (n : Nat)
  | scr (ns : List Int)
instance : Inhabited D := ⟨.non⟩
/-- what stands in the store -/
inductive MO where
  | lst (xs : List D)
  | dct (kvs : List (Key × D))
  | ins (c : Str) (fs : List (Str × D))
abbrev Sto := List MO
structure Ex where
  cls : Str
  fs : List (Str × D)
inductive Out (α : Type) where
  | ok (a : α) (S : Sto)
  | exc (e : Ex) (S : Sto)
  | bad
abbrev M (α : Type) := Sto → Out α
section
variable {α β : Type}
def M.pure (a : α) : M α := fun S => .ok a S
def M.bind (x : M α) (f : α → M β) : M β := fun S => match x S with
  | .ok a S' => f a S'
  | .exc e S' => .exc e S'
  | .bad => .bad
end
instance : Monad M where
  pure := M.pure
  bind := M.bind
section
variable {α β : Type}
def bad : M α := fun _ => .bad
def ofO : Option α → M α
  | some a => M.pure a
  | none => bad
def chk (b : Bool) : M Unit := fun S => match b with
  | true => .ok () S
  | false => .bad
theorem bind_eq (x : M α) (f : α → M β) (S : Sto) : (x >>= f) S = M.bind x f S := rfl
theorem pure_eq (a : α) (S : Sto) : (pure a : M α) S = .ok a S := rfl
theorem bind_ok {x : M α} {f : α → M β} {S S' : Sto} {a : α} (h : x S = .ok a S') : M.bind x f S = f a S' := by unfold M.bind; rw [h]
end

/-! ### pure data -/
mutual
def pureD : D → Bool
  | .non | .bl _ | .int _ | .str _ => true
  | .tup xs | .lst xs => pureL xs
  | .dct kvs => pureK kvs
  | .loc _ | .scr _ => false
def pureL : List D → Bool
  | [] => true
  | x :: xs => pureD x && pureL xs
def pureK : List (Key × D) → Bool
  | [] => true
  | (_, x) :: xs => pureD x && pureK xs
end
def pureF : List (Str × D) → Bool
  | [] => true
  | (_, x) :: xs => pureD x && pureF xs
/-! ### as the library's data -/
def keyPy : Key → PyData
  | .inl i => .int i
  | .inr x => .str x
mutual
def pyP : D → Option PyData
  | .non => some .none
  | .bl b => some (.bool b)
  | .int i => some (.int i)
  | .str x => some (.str x)
  | .tup xs => (pyPs xs).map .tuple
  | .lst xs => (pyPs xs).map .list
  | .dct kvs => (pyPk kvs).map .dict
  | .loc _ | .scr _ => none
def pyPs : List D → Option (List PyData)
  | [] => some []
  | x :: xs => (pyP x).bind fun y => (pyPs xs).map fun ys => y :: ys
def pyPk : List (Key × D) → Option (List (PyData × PyData))
  | [] => some []
  | (k, x) :: xs => (pyP x).bind fun y => (pyPk xs).map fun ys => (keyPy k, y) :: ys
end
mutual
def toPy (S : Sto) : D → Option PyData
  | .non => some .none
  | .bl b => some (.bool b)
  | .int i => some (.int i)
  | .str x => some (.str x)
  | .tup xs => (toPys S xs).map .tuple
  | .lst xs => (toPys S xs).map .list
  | .dct kvs => (pyPk kvs).map .dict
  | .loc n => match S[n]? with
    | some (.lst xs) => (pyPs xs).map .list
    | _ => none
  | .scr _ => none
def toPys (S : Sto) : List D → Option (List PyData)
  | [] => some []
  | x :: xs => (toPy S x).bind fun y => (toPys S xs).map fun ys => y :: ys
end

/-! ### items -/
def itemsO (S : Sto) : D → Option (List D)
  | .tup xs => some xs
  | .lst xs => some xs
  | .loc n => match S[n]? with
    | some (.lst xs) => some xs
    | _ => none
  | _ => none
def litemsO (S : Sto) : D → Option (List D)
  | .lst xs => some xs
  | .loc n => match S[n]? with
    | some (.lst xs) => some xs
    | _ => none
  | _ => none
def opt {α : Type} (f : Sto → Option α) : M α := fun S => match f S with
  | some a => .ok a S
  | none => .bad
def items (d : D) : M (List D) := opt fun S => itemsO S d
def litems (d : D) : M (List D) := opt fun S => litemsO S d

/-! ### operators -/
def fits (n : Nat) : Bool := decide (n ≤ sizeLine)
def mulOk (i j : Int) : Bool := decide (i.natAbs.log2 + j.natAbs.log2 < 100000000)
def repOk (n : Nat) (k : Int) : Bool := decide (-(2 ^ 63) ≤ k ∧ k < 2 ^ 63 ∧ n * k.toNat ≤ sizeLine)
def addD (a b : D) : M D := match a, b with
  | .int i, .int j => M.pure (.int (i + j))
  | .str x, .str y => M.bind (chk (fits (x.length + y.length))) fun _ => M.pure (.str (x ++ y))
  | .tup xs, .tup ys => M.bind (chk (fits (xs.length + ys.length))) fun _ => M.pure (.tup (xs ++ ys))
  | _, _ => bad
def subD (a b : D) : M D := match a, b with
  | .int i, .int j => M.pure (.int (i - j))
  | _, _ => bad
def mulD (a b : D) : M D := match a, b with
  | .int i, .int j => M.bind (chk (mulOk i j)) fun _ => M.pure (.int (i * j))
  | .tup xs, .int k => if k = 1 then M.pure (.tup xs) else M.bind (chk (decide (1 ≤ xs.length ∧ xs.length ≤ 1000 ∧ 2 ≤ k ∧ k ≤ 1000))) fun _ => M.pure (.tup (List.replicate k.toNat xs).flatten)
  | _, _ => bad
def divOk (i j : Int) : Bool := decide (j ≠ 0) && !Builtin.divisionGoesByPylong i j
def fdivD (a b : D) : M D := match a, b with
  | .int i, .int j => M.bind (chk (divOk i j)) fun _ => M.pure (.int (i.fdiv j))
  | _, _ => bad
def modD (a b : D) : M D := match a, b with
  | .int i, .int j => M.bind (chk (decide (j ≠ 0))) fun _ => M.pure (.int (i.fmod j))
  | _, _ => bad
def powD (a b : D) : M D := match a, b with
  | .int i, .int j => M.bind (chk (decide (0 ≤ j ∧ j ≤ 1000 ∧ i.natAbs < 2 ^ 64))) fun _ => M.pure (.int (i ^ j.toNat))
  | _, _ => bad
/-- two lists joined, a list repeated: the items of the new list -/
def catL (a b : D) : M (List D) := M.bind (litems a) fun xs => M.bind (litems b) fun ys => M.bind (chk (fits (xs.length + ys.length))) fun _ => M.pure (xs ++ ys)
def repL (a b : D) : M (List D) := M.bind (litems a) fun xs => match b with
  | .int k => M.bind (chk (repOk xs.length k)) fun _ => M.pure (List.replicate k.toNat xs).flatten
  | _ => bad
def isList : D → Bool
  | .lst _ | .loc _ => true
  | _ => false
/-- == beside an empty list, an empty tuple -/
def emptyO (S : Sto) (a b : D) : Option Bool := match b with
  | .lst [] => (litemsO S a).map List.isEmpty
  | .tup [] => match a with
    | .tup xs => some xs.isEmpty
    | _ => none
  | _ => none
/-- == -/
def eqO (S : Sto) (a b : D) : Option Bool := match a, b with
  | .int i, .int j => some (i == j)
  | .str x, .str y => some (x == y)
  | a, b => match emptyO S a b with
    | some k => some k
    | none => (toPy S a).bind fun x => (toPy S b).bind fun y => match SeqAt.shaped x && SeqAt.shaped y with
      | true => some (PyData.eqv x y)
      | false => none
def flatD : D → Bool
  | .non | .bl _ | .int _ | .str _ => true
  | _ => false
def eqF : D → D → Bool
  | .non, .non => true
  | .bl a, .bl b => a == b
  | .bl a, .int b => (if a then 1 else 0) == b
  | .int a, .bl b => a == (if b then 1 else 0)
  | .int a, .int b => a == b
  | .str a, .str b => a == b
  | _, _ => false
def inO (S : Sto) (x y : D) : Option Bool := match y with
  | .str z => match x with
    | .str ⟨cs⟩ => match cs.toList with
      | [c] => some (decide (c ∈ z.cps.toList))
      | _ => none
    | _ => none
  | y => (itemsO S y).bind fun ys => match flatD x && ys.all flatD with
    | true => some (ys.any fun z => eqF z x)
    | false => none
def intsO : List D → Option (List Int)
  | [] => some []
  | .int i :: xs => (intsO xs).map fun ys => i :: ys
  | _ => none
def ltO (a b : D) : Option Bool := match a, b with
  | .int i, .int j => some (decide (i < j))
  | .tup xs, .tup ys => (intsO xs).bind fun ns => (intsO ys).map fun ms => HT.lexLt ns ms
  | _, _ => none
def leO (a b : D) : Option Bool := match a, b with
  | .int i, .int j => some (decide (i ≤ j))
  | _, _ => none
def isO (a b : D) : Option Bool := match b with
  | .non => some (match a with | .non => true | _ => false)
  | _ => none
def cmpO (op : CmpOp) (S : Sto) (a b : D) : Option Bool := match op with
  | .Eq => eqO S a b
  | .NotEq => (eqO S a b).map not
  | .Lt => ltO a b
  | .LtE => leO a b
  | .Gt => match a, b with
    | .int i, .int j => some (decide (j < i))
    | _, _ => none
  | .GtE => match a, b with
    | .int i, .int j => some (decide (j ≤ i))
    | _, _ => none
  | .In => inO S a b
  | .NotIn => (inO S a b).map not
  | .Is => isO a b
  | .IsNot => (isO a b).map not
def cmpD (op : CmpOp) (a b : D) : M Bool := opt fun S => cmpO op S a b
def truthO (S : Sto) : D → Option Bool
  | .non => some false
  | .bl b => some b
  | .int i => some (i != 0)
  | .str x => if x.length ≤ sizeLine then some ((x.length : Int) != 0) else none
  | .dct kvs => some !kvs.isEmpty
  | d => (itemsO S d).map fun xs => !xs.isEmpty
/-! ### subscripts -/
def keyO : D → Option Key
  | .int i => some (.inl i)
  | .str x => some (.inr x)
  | _ => none
def itemO (S : Sto) (a i : D) : Option D := match a with
  | .str z => match i with
    | .int k => if z.length ≤ sizeLine then (atI z.cps.toList k).map fun c => .str ⟨#[c]⟩ else none
    | _ => none
  | a => (itemsO S a).bind fun xs => match i with
    | .int k => atI xs k
    | _ => none
def getItem (a i : D) : M D := opt fun S => itemO S a i
def cut {α : Type} (xs : List α) (lo hi : Option Int) : List α := (xs.drop (HT.sIx xs.length 0 lo)).take (HT.sIx xs.length xs.length hi - HT.sIx xs.length 0 lo)
def sliceO (S : Sto) (a : D) (lo hi : Option Int) : Option D := match a with
  | .tup xs => some (.tup (cut xs lo hi))
  | .scr ns => some (.lst ((cut ns lo hi).map .int))
  | .str z => if z.length ≤ sizeLine then some (.str (L2.cutS z lo hi)) else none
  | a => (litemsO S a).map fun xs => .lst (cut xs lo hi)
def slice (a : D) (lo hi : Option Int) : M D := opt fun S => sliceO S a lo hi
def backO (S : Sto) (a : D) : Option D := match a with
  | .tup xs => some (.tup xs.reverse)
  | a => (litemsO S a).map fun xs => .lst xs.reverse
def back (a : D) : M D := opt fun S => backO S a
/-! ### the store -/
def newL (xs : List D) : M D := fun S => match pureL xs with
  | true => .ok (.loc S.length) (S ++ [.lst xs])
  | false => .bad
def putL (n : Nat) (xs : List D) : M Unit := fun S => match pureL xs with
  | true => .ok () (S.set n (.lst xs))
  | false => .bad
def mutO (S : Sto) : D → Option (Nat × List D)
  | .loc n => match S[n]? with
    | some (.lst xs) => some (n, xs)
    | _ => none
  | _ => none
def mutL (d : D) : M (Nat × List D) := opt fun S => mutO S d
def setItem (a i v : D) : M Unit := M.bind (mutL a) fun p => match i with
  | .int k => M.bind (ofO (ixN p.2.length k)) fun j => putL p.1 (p.2.set j v)
  | _ => bad

/-! ### expressions -/
abbrev Env := List (Option D)
abbrev Call := Nat → List D → M D
abbrev ME := Call → Env → M D
abbrev MT := Call → Env → M Bool
abbrev MA := Call → Env → M (List D)
inductive Src where
  | fix (xs : List D)
  | live (n : Nat)
  | zlive (n : Nat) (ys : List D)
abbrev MI := Call → Env → M Src
abbrev MG := Call → D → Env → M Env
inductive Fl where
  | nx (ρ : Env) | rt (d : D) | bk (ρ : Env) | ct (ρ : Env)
abbrev MS := Call → Env → M Fl
def eVar (i : Nat) : ME := fun _ ρ => match ρ[i]? with
  | some (some d) => M.pure d
  | _ => bad
def eC (d : D) : ME := fun _ _ => M.pure d
def eOp (h : D → D → M D) (f g : ME) : ME := fun c ρ => M.bind (f c ρ) fun a => M.bind (g c ρ) fun b => h a b
def eUn (h : D → M D) (f : ME) : ME := fun c ρ => M.bind (f c ρ) h
def negD : D → M D
  | .int i => M.pure (.int (-i))
  | _ => bad
/-- a + b, a * b where a may be a list -/
def addA (a b : D) : M D := match isList a with
  | true => M.bind (catL a b) fun xs => M.pure (.lst xs)
  | false => addD a b
def mulA (a b : D) : M D := match isList a with
  | true => M.bind (repL a b) fun xs => M.pure (.lst xs)
  | false => mulD a b
/-- a list's method of one argument -/
def eMeth (h : D → D → M D) (f g : ME) : ME := fun c ρ => M.bind (f c ρ) fun a => M.bind (litems a) fun _ => M.bind (g c ρ) fun b => h a b
def ofB (f : MT) : ME := fun c ρ => M.bind (f c ρ) fun b => M.pure (.bl b)
def tCmp (op : CmpOp) (f g : ME) : MT := fun c ρ => M.bind (f c ρ) fun a => M.bind (g c ρ) fun b => cmpD op a b
def tChain (op op' : CmpOp) (f g h : ME) : MT := fun c ρ => M.bind (f c ρ) fun a => M.bind (g c ρ) fun b => M.bind (cmpD op a b) fun r => match r with
  | true => M.bind (h c ρ) fun d => cmpD op' b d
  | false => M.pure false
/-- an expression's truth -/
def tTru (f : ME) : MT := fun c ρ => M.bind (f c ρ) fun d => opt fun S => truthO S d
def tAnd (f g : MT) : MT := fun c ρ => M.bind (f c ρ) fun b => match b with
  | true => g c ρ
  | false => M.pure false
def tOr (f g : MT) : MT := fun c ρ => M.bind (f c ρ) fun b => match b with
  | true => M.pure true
  | false => g c ρ
def tNot (f : MT) : MT := fun c ρ => M.bind (f c ρ) fun b => M.pure (!b)
def isBl : D → M Bool
  | .bl b => M.pure b
  | _ => bad
/-- and, or of values, the first one True or False -/
def eAnd (f g : ME) : ME := fun c ρ => M.bind (f c ρ) fun d => M.bind (isBl d) fun b => match b with
  | true => g c ρ
  | false => M.pure (.bl false)
def eOr (f g : ME) : ME := fun c ρ => M.bind (f c ρ) fun d => M.bind (isBl d) fun b => match b with
  | true => M.pure (.bl true)
  | false => g c ρ
def eNot (f : ME) : ME := fun c ρ => M.bind (f c ρ) fun d => M.bind (isBl d) fun b => M.pure (.bl !b)
def eIf (t : MT) (f g : ME) : ME := fun c ρ => M.bind (t c ρ) fun b => match b with
  | true => f c ρ
  | false => g c ρ
def aNil : MA := fun _ _ => M.pure []
def aCons (f : ME) (g : MA) : MA := fun c ρ => M.bind (f c ρ) fun a => M.bind (g c ρ) fun as => M.pure (a :: as)
def eTup (f : MA) : ME := fun c ρ => M.bind (f c ρ) fun xs => M.bind (chk (fits xs.length)) fun _ => M.pure (.tup xs)
/-- new lists: read alone, or to be changed -/
def eFz (f : MA) : ME := fun c ρ => M.bind (f c ρ) fun xs => M.pure (.lst xs)
def eMu (f : MA) : ME := fun c ρ => M.bind (f c ρ) newL
def lDisp (f : MA) : MA := fun c ρ => M.bind (f c ρ) fun xs => M.bind (chk (fits xs.length)) fun _ => M.pure xs
def lOp (h : D → D → M (List D)) (f g : ME) : MA := fun c ρ => M.bind (f c ρ) fun a => M.bind (g c ρ) fun b => h a b
/-- list(x) -/
def lOf (f : ME) : MA := fun c ρ => M.bind (f c ρ) items
/-- {}, {k: v} -/
def eDct0 : ME := fun _ _ => M.pure (.dct [])
def eDct1 (k : Key) (f : ME) : ME := fun c ρ => M.bind (f c ρ) fun d => M.pure (.dct [(k, d)])
def eItem (f g : ME) : ME := fun c ρ => M.bind (f c ρ) fun a => M.bind (g c ρ) fun b => getItem a b
def oNone : Call → Env → M (Option Int) := fun _ _ => M.pure none
def oSome (f : ME) : Call → Env → M (Option Int) := fun c ρ => M.bind (f c ρ) fun d => match d with
  | .int i => M.pure (some i)
  | _ => bad
def eSlice (f : ME) (l h : Call → Env → M (Option Int)) : ME := fun c ρ => M.bind (f c ρ) fun a => M.bind (l c ρ) fun i => M.bind (h c ρ) fun j => slice a i j
def eBack (f : ME) : ME := fun c ρ => M.bind (f c ρ) back
def eCall (i : Nat) (f : MA) : ME := fun c ρ => M.bind (f c ρ) fun xs => c i xs
def permA (p : List Nat) (xs : List D) : Option (List D) := p.mapM fun j => xs[j]?
def eCallP (i : Nat) (p : List Nat) (m kn : Nat) (f g : MA) : ME := fun c ρ => M.bind (f c ρ) fun xs => M.bind (g c ρ) fun ys => M.bind (chk (decide (xs.length = m ∧ ys.length = kn))) fun _ => M.bind (ofO (permA p (xs ++ ys))) fun zs => c i zs
/-- a built-in of one list of arguments -/
def eB (h : List D → M D) (f : MA) : ME := fun c ρ => M.bind (f c ρ) h
/-! ### what is walked -/
def iSeq (f : ME) : MI := fun c ρ => M.bind (f c ρ) fun d => match d with
  | .loc n => M.bind (litems (.loc n)) fun _ => M.pure (.live n)
  | .tup xs => M.pure (.fix xs)
  | .lst xs => M.pure (.fix xs)
  | _ => bad
def rangeL (lo : Int) : Nat → List D
  | 0 => []
  | n + 1 => .int lo :: rangeL (lo + 1) n
def inR (i : Int) : Bool := decide (-(2 ^ 62) ≤ i ∧ i < 2 ^ 62)
/-- a walk made of one list of arguments -/
def iB (h : List D → M Src) (f : MA) : MI := fun c ρ => M.bind (f c ρ) h
def range1D : List D → M Src
  | [.int j] => M.bind (chk (inR j)) fun _ => M.pure (.fix (rangeL 0 j.toNat))
  | _ => bad
def range2D : List D → M Src
  | [.int i, .int j] => M.bind (chk (inR i && inR j)) fun _ => M.pure (.fix (rangeL i (j - i).toNat))
  | _ => bad
/-- range with the step -1 -/
def downL (hi : Int) : Nat → List D
  | 0 => []
  | n + 1 => .int hi :: downL (hi - 1) n
def range3D : List D → M Src
  | [.int i, .int j, .int k] => M.bind (chk (inR i && (inR j && decide (k = -1)))) fun _ => M.pure (.fix (downL i (i - j).toNat))
  | _ => bad
def iRange3 (f g h : ME) : MI := iB range3D (aCons f (aCons g (aCons h aNil)))
def iRange1 (f : ME) : MI := iB range1D (aCons f aNil)
def iRange2 (f g : ME) : MI := iB range2D (aCons f (aCons g aNil))
/-- list(range(..)) -/
def lRg1 (f : ME) : MA := fun c ρ => M.bind (f c ρ) fun d => match d with
  | .int j => M.bind (chk (inR j && fits j.toNat)) fun _ => M.pure (rangeL 0 j.toNat)
  | _ => bad
def lRg2 (f g : ME) : MA := fun c ρ => M.bind (f c ρ) fun d => M.bind (g c ρ) fun e => match d, e with
  | .int i, .int j => M.bind (chk (inR i && (inR j && fits (j - i).toNat))) fun _ => M.pure (rangeL i (j - i).toNat)
  | _, _ => bad
def numb (lo : Nat) : List D → List D
  | [] => []
  | x :: xs => .tup [.int lo, x] :: numb (lo + 1) xs
def zipD : List D → List D → List D
  | x :: xs, y :: ys => .tup [x, y] :: zipD xs ys
  | _, _ => []
/-- a sequence that stands still -/
def stillO : D → Option (List D)
  | .tup xs => some xs
  | .lst xs => some xs
  | _ => none
def still (d : D) : M (List D) := ofO (stillO d)
def enumD : List D → M Src
  | [d] => M.bind (still d) fun xs => M.pure (.fix (numb 0 xs))
  | _ => bad
def zip2F (d e : D) : M Src := M.bind (still d) fun xs => M.bind (still e) fun ys => M.pure (.fix (zipD xs ys))
def zip2D : List D → M Src
  | [.loc n, e] => M.bind (litems (.loc n)) fun _ => M.bind (still e) fun ys => M.pure (.zlive n ys)
  | [d, e] => zip2F d e
  | _ => bad
def iEnum (f : ME) : MI := iB enumD (aCons f aNil)
def iZip (f g : ME) : MI := iB zip2D (aCons f (aCons g aNil))
/-! ### targets -/
def gName (i : Nat) : MG := fun _ d ρ => M.pure (ρ.set i (some d))
def gList : List MG → Call → List D → Env → M Env
  | [], _, [], ρ => M.pure ρ
  | g :: gs, c, d :: ds, ρ => M.bind (g c d ρ) fun ρ1 => gList gs c ds ρ1
  | _, _, _, _ => bad
def gTup (gs : List MG) : MG := fun c d ρ => match d with
  | .tup xs => M.bind (chk (decide (xs.length = gs.length))) fun _ => gList gs c xs ρ
  | _ => bad
def gSub (f g : ME) : MG := fun c d ρ => M.bind (f c ρ) fun a => M.bind (g c ρ) fun i => M.bind (setItem a i d) fun _ => M.pure ρ
/-! ### comprehensions -/
def wipeE (ρ : Env) : List Nat → Env
  | [] => ρ
  | v :: vs => (wipeE ρ vs).set v none
/-- no exception may leave -/
def calm {α : Type} (x : M α) : M α := fun S => match x S with
  | .ok a S' => .ok a S'
  | _ => .bad
def compTurn (g : MG) (t : MT) (e : ME) (c : Call) (ρ : Env) (x : D) (acc : List D) : M (List D) := calm (M.bind (g c x ρ) fun ρ2 => M.bind (t c ρ2) fun b => match b with
  | true => M.bind (e c ρ2) fun y => M.bind (chk (decide (acc.length < sizeLine))) fun _ => M.pure (acc ++ [y])
  | false => M.pure acc)
def compFix (g : MG) (t : MT) (e : ME) (c : Call) (ρ : Env) : List D → List D → M (List D)
  | [], acc => M.pure acc
  | x :: xs, acc => M.bind (compTurn g t e c ρ x acc) fun acc2 => compFix g t e c ρ xs acc2
/-- the most turns of a walk over what changes, of a while -/
def turns : Nat := 1000000
def compLive (n : Nat) (g : MG) (t : MT) (e : ME) (c : Call) (ρ : Env) : Nat → Nat → List D → M (List D)
  | 0, _, _ => bad
  | k + 1, i, acc => M.bind (litems (.loc n)) fun xs => match xs[i]? with
    | none => M.pure acc
    | some x => M.bind (compTurn g t e c ρ x acc) fun acc2 => compLive n g t e c ρ k (i + 1) acc2
/-- .. over zip of a list that may be changed and of what stands still -/
def compZ (n : Nat) (ys : List D) (g : MG) (t : MT) (e : ME) (c : Call) (ρ : Env) : Nat → Nat → List D → M (List D)
  | 0, _, _ => bad
  | k + 1, i, acc => M.bind (litems (.loc n)) fun xs => match xs[i]?, ys[i]? with
    | some x, some y => M.bind (compTurn g t e c ρ (.tup [x, y]) acc) fun acc2 => compZ n ys g t e c ρ k (i + 1) acc2
    | _, _ => M.bind (chk (decide (i = min xs.length ys.length))) fun _ => M.pure acc
def lComp (s : MI) (own : List Nat) (g : MG) (t : MT) (e : ME) : MA := fun c ρ => M.bind (s c ρ) fun z => match z with
  | .fix xs => compFix g t e c (wipeE ρ own) xs []
  | .live n => compLive n g t e c (wipeE ρ own) turns 0 []
  | .zlive n ys => compZ n ys g t e c (wipeE ρ own) turns 0 []
def tYes : MT := fun _ _ => M.pure true
/-- [e for a in s for b in s2]: the inner walk in each turn; tests ahead of it -/
def comp2Turn (g : MG) (t : MT) (s2 : MI) (own2 : List Nat) (g2 : MG) (t2 : MT) (e : ME) (c : Call) (ρ : Env) (x : D) (acc : List D) : M (List D) := calm (M.bind (g c x ρ) fun ρ2 => M.bind (t c ρ2) fun b => match b with
  | true => M.bind (s2 c ρ2) fun z => match z with
    | .fix ys => compFix g2 t2 e c (wipeE ρ2 own2) ys acc
    | .live _ => bad
    | .zlive _ _ => bad
  | false => M.pure acc)
def comp2Fix (g : MG) (t : MT) (s2 : MI) (own2 : List Nat) (g2 : MG) (t2 : MT) (e : ME) (c : Call) (ρ : Env) : List D → List D → M (List D)
  | [], acc => M.pure acc
  | x :: xs, acc => M.bind (comp2Turn g t s2 own2 g2 t2 e c ρ x acc) fun acc2 => comp2Fix g t s2 own2 g2 t2 e c ρ xs acc2
def lComp2 (s : MI) (own : List Nat) (g : MG) (t : MT) (s2 : MI) (own2 : List Nat) (g2 : MG) (t2 : MT) (e : ME) : MA := fun c ρ => M.bind (s c ρ) fun z => match z with
  | .fix xs => comp2Fix g t s2 own2 g2 t2 e c (wipeE ρ own) xs []
  | .live _ => bad
  | .zlive _ _ => bad
/-! ### statements -/
def sNext : MS := fun _ ρ => M.pure (.nx ρ)
def sSeq (a b : MS) : MS := fun c ρ => M.bind (a c ρ) fun f => match f with
  | .nx ρ1 => b c ρ1
  | f => M.pure f
def sRet (f : ME) : MS := fun c ρ => M.bind (f c ρ) fun d => M.pure (.rt d)
def sRetN : MS := fun _ _ => M.pure (.rt .non)
def sBreak : MS := fun _ ρ => M.pure (.bk ρ)
def sCont : MS := fun _ ρ => M.pure (.ct ρ)
def sDrop (f : ME) : MS := fun c ρ => M.bind (f c ρ) fun _ => M.pure (.nx ρ)
def sAsg (f : ME) (g : MG) : MS := fun c ρ => M.bind (f c ρ) fun d => M.bind (g c d ρ) fun ρ1 => M.pure (.nx ρ1)
def setAll : Env → List Nat → List D → Env
  | ρ, i :: is, d :: ds => setAll (ρ.set i (some d)) is ds
  | ρ, _, _ => ρ
/-- a, b = x, y: plain names -/
def sPar (f : MA) (is : List Nat) : MS := fun c ρ => M.bind (f c ρ) fun ds => M.bind (chk (decide (ds.length = is.length))) fun _ => M.pure (.nx (setAll ρ is ds))
def sIf (t : MT) (a b : MS) : MS := fun c ρ => M.bind (t c ρ) fun r => match r with
  | true => a c ρ
  | false => b c ρ
def sNever : MS := fun _ _ => bad
def forTurn (g : MG) (b : MS) (c : Call) (x : D) (ρ : Env) : M Fl := M.bind (g c x ρ) fun ρ1 => b c ρ1
def forFix (g : MG) (b : MS) (c : Call) : List D → Env → M Fl
  | [], ρ => M.pure (.nx ρ)
  | x :: xs, ρ => M.bind (forTurn g b c x ρ) fun f => match f with
    | .nx ρ1 => forFix g b c xs ρ1
    | .ct ρ1 => forFix g b c xs ρ1
    | .bk ρ1 => M.pure (.nx ρ1)
    | .rt d => M.pure (.rt d)
def forLive (n : Nat) (g : MG) (b : MS) (c : Call) : Nat → Nat → Env → M Fl
  | 0, _, _ => bad
  | k + 1, i, ρ => M.bind (litems (.loc n)) fun xs => match xs[i]? with
    | none => M.pure (.nx ρ)
    | some x => M.bind (forTurn g b c x ρ) fun f => match f with
      | .nx ρ1 => forLive n g b c k (i + 1) ρ1
      | .ct ρ1 => forLive n g b c k (i + 1) ρ1
      | .bk ρ1 => M.pure (.nx ρ1)
      | .rt d => M.pure (.rt d)
def sFor (s : MI) (g : MG) (b : MS) : MS := fun c ρ => M.bind (s c ρ) fun z => match z with
  | .fix xs => forFix g b c xs ρ
  | .live n => forLive n g b c turns 0 ρ
  | .zlive _ _ => bad
def whileN (t : MT) (b : MS) (c : Call) : Nat → Env → M Fl
  | 0, _ => bad
  | k + 1, ρ => M.bind (t c ρ) fun r => match r with
    | false => M.pure (.nx ρ)
    | true => M.bind (b c ρ) fun f => match f with
      | .nx ρ1 => whileN t b c k ρ1
      | .ct ρ1 => whileN t b c k ρ1
      | .bk ρ1 => M.pure (.nx ρ1)
      | .rt d => M.pure (.rt d)
def sWhile (t : MT) (b : MS) : MS := fun c ρ => whileN t b c turns ρ
/-! ### defs -/
mutual
/-- what was made since base to be changed stands still from now on -/
def fzD (S : Sto) (base : Nat) : D → Option D
  | .tup xs => (fzL S base xs).map .tup
  | .lst xs => (fzL S base xs).map .lst
  | .loc n => if n < base then some (.loc n) else match S[n]? with
    | some (.lst xs) => some (.lst xs)
    | _ => none
  | .dct kvs => if pureK kvs then some (.dct kvs) else none
  | d => some d
def fzL (S : Sto) (base : Nat) : List D → Option (List D)
  | [] => some []
  | x :: xs => (fzD S base x).bind fun y => (fzL S base xs).map fun ys => y :: ys
end
structure Fn where
  np : Nat
  ns : Nat
  fz : Bool
  body : MS
def finish (fz : Bool) (base : Nat) (d : D) : M D := fun S => match fz with
  | true => (match fzD S base d with
    | some d' => .ok d' (S.take base)
    | none => .bad)
  | false => .ok d S
def startE (n : Nat) (args : List D) : Env := args.map some ++ List.replicate (n - args.length) none
def runFn (f : Fn) (c : Call) (args : List D) : M D := fun S => match decide (args.length = f.np) with
  | false => .bad
  | true => match f.body c (startE f.ns args) S with
    | .ok (.nx _) S' => finish f.fz S.length .non S'
    | .ok (.rt d) S' => finish f.fz S.length d S'
    | _ => .bad
def callF (fs : List Fn) : Nat → Call
  | 0, _, _ => bad
  | k + 1, i, args => match fs[i]? with
    | some f => runFn f (callF fs k) args
    | none => bad

/-! ### built-ins -/
def b1 (h : Sto → D → Option D) : List D → M D
  | [x] => opt fun S => h S x
  | _ => bad
def lenO (S : Sto) (d : D) : Option D := match d with
  | .str z => if z.length ≤ sizeLine then some (.int z.length) else none
  | d => (itemsO S d).map fun xs => .int xs.length
def blsO : List D → Option (List Bool)
  | [] => some []
  | .bl b :: xs => (blsO xs).map fun ys => b :: ys
  | _ => none
def allO (S : Sto) (d : D) : Option D := (litemsO S d).bind fun xs => (blsO xs).map fun bs => .bl (bs.all id)
def anyO (S : Sto) (d : D) : Option D := (litemsO S d).bind fun xs => (blsO xs).map fun bs => .bl (bs.any id)
def absO (_ : Sto) : D → Option D
  | .int i => some (.int (if i < 0 then -i else i))
  | _ => none
def intO (_ : Sto) : D → Option D
  | .int i => some (.int i)
  | .bl k => some (.int (if k then 1 else 0))
  | _ => none
def strO (_ : Sto) : D → Option D
  | .int i => if i.natAbs.log2 < 1920 then some (.str (toString i)) else none
  | .str x => some (.str x)
  | _ => none
def reprC (S : Sto) (d : D) : Option D := (toPy S d).bind fun p => match p.showable && (decide (p.shown.length ≤ sizeLine) && (decide (p.depth ≤ 64) && !p.hasDict)) with
  | true => some (.str p.shown)
  | false => none
def reprO (S : Sto) (d : D) : Option D := match d with
  | .tup _ | .lst _ | .loc _ => reprC S d
  | .int i => if i.natAbs.log2 < 1920 then some (.str (toString i)) else none
  | _ => none
def tupO (S : Sto) (d : D) : Option D := (itemsO S d).map .tup
def gcdD : List D → M D
  | [.int a, .int b] => M.pure (.int ((Nat.gcd a.natAbs b.natAbs : Nat) : Int))
  | _ => bad
def divmodD : List D → M D
  | [.int i, .int j] => M.bind (chk (decide (0 < j) && !Builtin.divisionGoesByPylong i j)) fun _ => M.pure (.tup [.int (i / j), .int (i % j)])
  | _ => bad
def minI : List Int → Option Int
  | [] => none
  | [x] => some x
  | x :: xs => (minI xs).map fun y => if y < x then y else x
def maxI : List Int → Option Int
  | [] => none
  | [x] => some x
  | x :: xs => (maxI xs).map fun y => if x < y then y else x
def min2D : List D → M D
  | [.int a, .int b] => M.pure (.int (if b < a then b else a))
  | _ => bad
def max2D : List D → M D
  | [.int a, .int b] => M.pure (.int (if b > a then b else a))
  | _ => bad
def minO (S : Sto) (d : D) : Option D := (itemsO S d).bind fun xs => (intsO xs).bind fun ns => (minI ns).map .int
def maxO (S : Sto) (d : D) : Option D := (itemsO S d).bind fun xs => (intsO xs).bind fun ns => (maxI ns).map .int
def sumO (S : Sto) (d : D) : Option D := (litemsO S d).bind fun xs => (intsO xs).map fun ns => .int ns.sum
/-- which of int, bool, tuple, str, list, dict a value is -/
inductive Ty where
  | int | bool | tuple | str | list | dict
  deriving DecidableEq
def isTy (t : Ty) : D → Option Bool
  | .non => some false
  | .bl _ => some (decide (t = .bool ∨ t = .int))
  | .int _ => some (decide (t = .int))
  | .str _ => some (decide (t = .str))
  | .tup _ => some (decide (t = .tuple))
  | .lst _ | .loc _ => some (decide (t = .list))
  | .dct _ => some (decide (t = .dict))
  | .scr _ => none
def isTyO (S : Sto) (t : Ty) (d : D) : Option Bool := match d with
  | .loc n => (litemsO S (.loc n)).map fun _ => decide (t = .list)
  | d => isTy t d
def isiD (t : Ty) (d : D) : M D := opt fun S => (isTyO S t d).map .bl
def eIsi (f : ME) (t : Ty) : ME := eUn (isiD t) f
/-- sorted of whole numbers -/
def insI (x : Int) : List Int → List Int
  | [] => [x]
  | y :: ys => if x ≤ y then x :: y :: ys else y :: insI x ys
def sortI : List Int → List Int
  | [] => []
  | x :: xs => insI x (sortI xs)
def dedI : List Int → List Int
  | [] => []
  | x :: xs => if x ∈ xs then dedI xs else x :: dedI xs
def lSorted (f : ME) : MA := fun c ρ => M.bind (f c ρ) fun d => M.bind (litems d) fun xs => M.bind (ofO (intsO xs)) fun ns => M.pure ((sortI ns).map .int)
/-- sorted(set(list of whole numbers)) -/
def lSortedSet (f : ME) : MA := fun c ρ => M.bind (f c ρ) fun d => M.bind (litems d) fun xs => M.bind (ofO (intsO xs)) fun ns => M.bind (chk (decide (ns.length < 64))) fun _ => M.pure ((sortI (dedI ns)).map .int)
/-- len(set(whole numbers)) -/
def eLenSet (f : ME) : ME := fun c ρ => M.bind (f c ρ) fun d => M.bind (items d) fun xs => M.bind (ofO (intsO xs)) fun ns => M.bind (chk (decide (ns.length < 64))) fun _ => M.pure (.int (dedI ns).length)
/-- tuple(zip(*rows)), rows that are tuples of one length -/
def rowsO : List D → Option (List (List D))
  | [] => some []
  | .tup xs :: r => (rowsO r).map fun rs => xs :: rs
  | _ => none
def eZipS (f : ME) : ME := fun c ρ => M.bind (f c ρ) fun d => M.bind (items d) fun xs => M.bind (ofO (rowsO xs)) fun rs =>
  M.bind (chk (decide (1 ≤ rs.length ∧ rs.length ≤ 8 ∧ 1 ≤ (rs.headD []).length ∧ (rs.headD []).length ≤ 1000 ∧ ∀ r ∈ rs, r.length = (rs.headD []).length))) fun _ =>
  M.pure (.tup ((List.range (rs.headD []).length).map fun j => .tup (rs.map fun r => r[j]?.getD .non)))
/-- methods of lists -/
def appD (a y : D) : M D := M.bind (mutL a) fun p => M.bind (chk (decide (p.2.length < sizeLine))) fun _ => M.bind (putL p.1 (p.2 ++ [y])) fun _ => M.pure .non
def popD (a i : D) : M D := M.bind (mutL a) fun p => match i with
  | .int k => M.bind (chk (inR k)) fun _ => M.bind (ofO (ixN p.2.length k)) fun j => M.bind (ofO p.2[j]?) fun x => M.bind (putL p.1 (p.2.eraseIdx j)) fun _ => M.pure x
  | _ => bad
def indexO (S : Sto) (a y : D) : Option D := (litemsO S a).bind fun xs => match flatD y && xs.all flatD with
  | true => (xs.findIdx? fun z => eqF z y).map fun (j : Nat) => D.int (j : Int)
  | false => none
def indexD (x y : D) : M D := opt fun S => indexO S x y
def upperO (_ : Sto) : D → Option D
  | .str x => if x.length ≤ 5592405 then some (.str (Txt.upper x)) else none
  | _ => none
def upperD (x : D) : M D := opt fun S => upperO S x
end MI

/-! MI2: from the text to what it does. -/
namespace MI
open PySem L2

/-- what is known of the module: its defs by name with their parameters, its constants, the names of built-ins (free names), positions of new lists that are changed later -/
structure GE where
  fns : List (Str × List Str)
  cst : List (Str × D)
  blt : List Str
  ms : List (Nat × Nat)
  kws : List (Nat × Nat × List Str)
def GE.fn (G : GE) (x : Str) : Option Nat := G.fns.findIdx? fun p => decide (p.1 = x)
def GE.isMu (G : GE) (p : Pos) : Bool := G.ms.any fun q => Nat.beq q.1 p.line && Nat.beq q.2 p.col
def slot (N : List Str) (x : Str) : Option Nat := N.findIdx? fun y => decide (y = x)
def nk (sc : Scope) (x : Str) : Option NameKind := sc.names.lookup x
def isVis (sc : Scope) (x : Str) : Bool := match nk sc x with
  | some .local | some .cell | some .free => true
  | _ => false
def isLoc (sc : Scope) (x : Str) : Bool := match nk sc x with
  | some .local | some .cell => true
  | _ => false
def isGl (sc : Scope) (x : Str) : Bool := match nk sc x with
  | some .globalImplicit => true
  | _ => false
def okN (x : Str) : Bool := !(x == ("__debug__" : Str)) && !(x == ("__classdict__" : Str)) && !(decide (x = "__name__"))
/-- a built-in's name as such -/
def isB (G : GE) (sc : Scope) (x y : Str) : Bool := decide (x = y) && (isGl sc x && G.blt.any fun z => decide (z = x))
def ownOf (N : List Str) (s : Scope) : List (Str × Nat) := s.names.filterMap fun p => match p.2 with
  | .local | .cell => (slot N p.1).map fun i => (p.1, i)
  | _ => none
def cOp : Operator → Option (D → D → M D)
  | .Add => some addA
  | .Sub => some subD
  | .Mult => some mulA
  | .FloorDiv => some fdivD
  | .Mod => some modD
  | .Pow => some powD
  | _ => none
def cConst : Const → Option D
  | .none => some .non
  | .bool b => some (.bl b)
  | .int i => some (.int i)
  | .str x => some (.str x)
  | _ => none
def cKey : Expr → Option Key
  | .Constant (.int i) _ _ => some (.inl i)
  | .Constant (.str x) _ _ => some (.inr x)
  | _ => none
def cTy (x : Str) : Option Ty :=
  if x = "int" then some .int else if x = "bool" then some .bool else if x = "tuple" then some .tuple else if x = "str" then some .str else if x = "list" then some .list else if x = "dict" then some .dict else none
/-- built-ins of one argument -/
def cB1 (x : Str) : Option (List D → M D) :=
  if x = "len" then some (b1 lenO) else if x = "all" then some (b1 allO) else if x = "any" then some (b1 anyO) else if x = "abs" then some (b1 absO)
  else if x = "int" then some (b1 intO) else if x = "str" then some (b1 strO) else if x = "repr" then some (b1 reprO) else if x = "tuple" then some (b1 tupO)
  else if x = "min" then some (b1 minO) else if x = "max" then some (b1 maxO) else if x = "sum" then some (b1 sumO) else none
def cB2 (x : Str) : Option (List D → M D) := if x = "divmod" then some divmodD else if x = "min" then some min2D else if x = "max" then some max2D else none
/-! ### what a text must be -/
def plainBase : Expr → Bool
  | .Call _ [] [] _ => false
  | _ => true
def notComp : Expr → Bool
  | .ListComp _ _ _ _ | .SetComp _ _ _ _ | .DictComp _ _ _ _ _ => false
  | _ => true
def notSet : Expr → Bool
  | .Set _ _ _ => false
  | _ => true
def notSlice : Expr → Bool
  | .Slice _ _ _ _ => false
  | _ => true
def isFun (sc : Scope) : Bool := match sc.kind with
  | .function => true
  | _ => false
/-- slots of a target's names -/
def tsl (N : List Str) : Nat → Expr → List Nat
  | 0, _ => []
  | n + 1, e => match e with
    | .Name x _ => (slot N x).toList
    | .Tuple es _ _ => (es.map (tsl N n)).flatten
    | _ => []
/-- a target's names are the block's own -/
def tgtOwn (s : Scope) : Nat → Expr → Bool
  | 0, _ => false
  | n + 1, e => match e with
    | .Name x _ => (match s.names.lookup x with | some .local | some .cell => true | _ => false)
    | .Tuple es _ _ => es.all (tgtOwn s n)
    | _ => false
/-- name = comprehension: does the store happen within? -/
def swB (sc : Scope) (x : Str) (px : Pos) (s : Scope) (p : Pos) : Bool :=
  decide (sc.names.lookup x = some .local) && (px.line == p.line) && !(s.names.any fun (n, k) => n == x && (k == .local || k == .cell))
/-- stores from the right -/
def namesOf (sc : Scope) (line : Nat) : List Expr → Option (List Str)
  | [] => some []
  | .Name x p :: es => match decide (sc.names.lookup x = some .local) && (p.line == line) with
    | true => (namesOf sc line es).map fun xs => x :: xs
    | false => none
  | _ => none
def isMinus1 : Expr → Bool
  | .UnaryOp .USub (.Constant (.int 1) _ _) _ => true
  | _ => false
def kwPerm (ps : List Str) (m : Nat) (ks : List Str) : Option (List Nat) := ((List.range ps.length).zip ps).mapM fun q => if q.1 < m then some q.1 else (ks.findIdx? fun k => decide (k = q.2)).map fun j => m + j
def starFree : List Expr → Bool
  | [] => true
  | .Starred _ _ :: _ => false
  | _ :: es => starFree es
/-- pairs are walked under a target of two places alone -/
def tgtIt (sc : Scope) (tg it : Expr) : Bool := match it with
  | .Call (.Name x _) _ _ _ => match isGl sc x && (decide (x = "zip") || decide (x = "enumerate")) with
    | true => (match tg with | .Tuple _ _ _ => true | _ => false)
    | false => true
  | _ => true
mutual
def cE (G : GE) : Nat → Scope → List Str → Expr → Option ME
  | 0, _, _, _ => none
  | n + 1, sc, N, e => match e with
    | .Constant c _ _ => (cConst c).map eC
    | .Name x _ => match okN x with
      | false => none
      | true => match isVis sc x with
        | true => (slot N x).map eVar
        | false => match isGl sc x with
          | true => (G.cst.lookup x).map eC
          | false => none
    | .BinOp a op b p => match G.isMu p with
      | true => (cL G n sc N e).map eMu
      | false => (cOp op).bind fun h => (cE G n sc N a).bind fun f => (cE G n sc N b).map fun g => eOp h f g
    | .UnaryOp .USub a _ => (cE G n sc N a).map (eUn negD)
    | .UnaryOp .Not a _ => (cE G n sc N a).map eNot
    | .BoolOp op es _ => cBo G n sc N op es
    | .Compare a [op] [b] _ => (cE G n sc N a).bind fun f => (cE G n sc N b).map fun g => ofB (tCmp op f g)
    | .Compare a [op, op'] [b, d] _ => (cE G n sc N a).bind fun f => (cE G n sc N b).bind fun g => (cE G n sc N d).map fun h => ofB (tChain op op' f g h)
    | .IfExp t a b _ => (cT G n sc N t).bind fun h => (cE G n sc N a).bind fun f => (cE G n sc N b).map fun g => eIf h f g
    | .Tuple es _ _ => (cA G n sc N es).map eTup
    | .Dict [] [] _ => some eDct0
    | .Dict [some kk] [v] _ => (cKey kk).bind fun q => (cE G n sc N v).map fun f => eDct1 q f
    | .List _ p => (cL G n sc N e).map fun f => if G.isMu p then eMu f else eFz f
    | .ListComp _ _ _ p => (cL G n sc N e).map fun f => if G.isMu p then eMu f else eFz f
    | .Subscript a (.Slice lo hi st _) _ => match st with
      | none => (cE G n sc N a).bind fun f => (cO G n sc N lo).bind fun l => (cO G n sc N hi).map fun h => eSlice f l h
      | some m => match lo, hi with
        | none, none => if isMinus1 m then (cE G n sc N a).map eBack else none
        | _, _ => none
    | .Subscript a i _ => match notSlice i with
      | true => (cE G n sc N a).bind fun f => (cE G n sc N i).map fun g => eItem f g
      | false => none
    | .Call (.Name x _) args kws p => match isGl sc x && okN x with
      | false => none
      | true => match G.fn x with
        | some i => match kws with
          | [] => (cA G n sc N args).map (eCall i)
          | kws => ((G.fns[i]?).bind fun q => (kws.mapM Keyword.arg).bind fun ks => match G.kws.any fun z => decide (z = (i, args.length, ks)) with
              | true => kwPerm q.2 args.length ks
              | false => none).bind fun pm => (cA G n sc N args).bind fun f => (cA G n sc N (kws.map Keyword.value)).map fun g => eCallP i pm args.length kws.length f g
        | none => match kws with
          | [] => match G.blt.any fun z => decide (z = x) with
            | true => cBlt G n sc N e x args p
            | false => none
          | _ => none
    | .Call (.Attribute o m ap) args [] p => match plainBase o && (ap.endLine == p.line) with
      | true => cMeth G n sc N o m args
      | false => none
    | _ => none
def cBo (G : GE) : Nat → Scope → List Str → BoolOp → List Expr → Option ME
  | 0, _, _, _, _ => none
  | n + 1, sc, N, op, es => match es with
    | [a] => cE G n sc N a
    | a :: b :: es => (cE G n sc N a).bind fun f => (cBo G n sc N op (b :: es)).map fun g => match op with
      | .And => eAnd f g
      | .Or => eOr f g
    | [] => none
/-- tests -/
def cT (G : GE) : Nat → Scope → List Str → Expr → Option MT
  | 0, _, _, _ => none
  | n + 1, sc, N, e => match e with
    | .UnaryOp .Not a _ => (cT G n sc N a).map tNot
    | .BoolOp op es _ => cTo G n sc N op es
    | .Compare a [op] [b] _ => (cE G n sc N a).bind fun f => (cE G n sc N b).map fun g => tCmp op f g
    | .Compare a [op, op'] [b, d] _ => (cE G n sc N a).bind fun f => (cE G n sc N b).bind fun g => (cE G n sc N d).map fun h => tChain op op' f g h
    | .Name _ _ => (cE G n sc N e).map tTru
    | .Constant _ _ _ => (cE G n sc N e).map tTru
    | .Call _ _ _ _ => (cE G n sc N e).map tTru
    | .Subscript _ _ _ => (cE G n sc N e).map tTru
    | _ => none
def cTo (G : GE) : Nat → Scope → List Str → BoolOp → List Expr → Option MT
  | 0, _, _, _, _ => none
  | n + 1, sc, N, op, es => match es with
    | [a] => cT G n sc N a
    | a :: b :: es => (cT G n sc N a).bind fun f => (cTo G n sc N op (b :: es)).map fun g => match op with
      | .And => tAnd f g
      | .Or => tOr f g
    | [] => none
/-- written arguments, items -/
def cA (G : GE) : Nat → Scope → List Str → List Expr → Option MA
  | 0, _, _, _ => none
  | n + 1, sc, N, es => match es with
    | [] => some aNil
    | .Starred _ _ :: _ => none
    | e :: es => (cE G n sc N e).bind fun f => (cA G n sc N es).map fun g => aCons f g
def cO (G : GE) : Nat → Scope → List Str → Option Expr → Option (Call → Env → M (Option Int))
  | 0, _, _, _ => none
  | n + 1, sc, N, o => match o with
    | none => some oNone
    | some e => (cE G n sc N e).map oSome
/-- new lists -/
def cL (G : GE) : Nat → Scope → List Str → Expr → Option MA
  | 0, _, _, _ => none
  | n + 1, sc, N, e => match e with
    | .List es _ => (cA G n sc N es).map lDisp
    | .BinOp a .Add b _ => (cE G n sc N a).bind fun f => (cE G n sc N b).map fun g => lOp catL f g
    | .BinOp a .Mult b _ => (cE G n sc N a).bind fun f => (cE G n sc N b).map fun g => lOp repL f g
    | .ListComp elt [⟨tg, it, ifs, 0⟩] s _ => match blkC N sc s (ownOf N s) && notSet it && tgtOwn s n tg && (tsl N n tg).all (fun i => (ownOf N s).any fun q => Nat.beq q.2 i) && tgtIt sc tg it with
      | true => (cI G n sc N it).bind fun z => (cG G n (relS s sc) N tg).bind fun g => (cIfs G n (relS s sc) N ifs).bind fun t => (cE G n (relS s sc) N elt).map fun f => lComp z ((ownOf N s).map (·.2)) g t f
      | false => none
    | .ListComp elt [⟨tg, it, ifs, 0⟩, ⟨tg2, it2, ifs2, 0⟩] s _ => match blkC N sc s (ownOf N s) && notSet it && notSet it2 && tgtOwn s n tg && tgtOwn s n tg2 && (tsl N n tg).all (fun i => (ownOf N s).any fun q => Nat.beq q.2 i) && (tsl N n tg2).all (fun i => (ownOf N s).any fun q => Nat.beq q.2 i) && tgtIt sc tg it && tgtIt (relS s sc) tg2 it2 with
      | true => (cI G n sc N it).bind fun z => (cG G n (relS s sc) N tg).bind fun g => (cIfs G n (relS s sc) N ifs).bind fun t =>
        (cI G n (relS s sc) N it2).bind fun z2 => (cG G n (relS s sc) N tg2).bind fun g2 => (cIfs G n (relS s sc) N ifs2).bind fun t2 => (cE G n (relS s sc) N elt).map fun f => lComp2 z ((ownOf N s).map (·.2)) g t z2 (tsl N n tg2) g2 t2 f
      | false => none
    | _ => none
def cIfs (G : GE) : Nat → Scope → List Str → List Expr → Option MT
  | 0, _, _, _ => none
  | n + 1, sc, N, es => match es with
    | [] => some tYes
    | [e] => cT G n sc N e
    | _ => none
/-- what is walked -/
def cI (G : GE) : Nat → Scope → List Str → Expr → Option MI
  | 0, _, _, _ => none
  | n + 1, sc, N, e => match e with
    | .Call (.Name x _) args [] _ => match isB G sc x "range" with
      | true => match args with
        | [a] => (cE G n sc N a).map iRange1
        | [a, b] => (cE G n sc N a).bind fun f => (cE G n sc N b).map fun g => iRange2 f g
        | [a, b, d] => (cE G n sc N a).bind fun f => (cE G n sc N b).bind fun g => (cE G n sc N d).map fun h => iRange3 f g h
        | _ => none
      | false => match isB G sc x "enumerate" with
        | true => match args with
          | [a] => (cE G n sc N a).map iEnum
          | _ => none
        | false => match isB G sc x "zip" with
          | true => match args with
            | [a, b] => (cE G n sc N a).bind fun f => (cE G n sc N b).map fun g => iZip f g
            | _ => none
          | false => (cE G n sc N e).map iSeq
    | e => (cE G n sc N e).map iSeq
/-- targets -/
def cG (G : GE) : Nat → Scope → List Str → Expr → Option MG
  | 0, _, _, _ => none
  | n + 1, sc, N, e => match e with
    | .Name x _ => match isLoc sc x with
      | true => (slot N x).map gName
      | false => none
    | .Tuple es _ _ => (cGs G n sc N es).map gTup
    | .Subscript a i _ => match notSlice i with
      | false => none
      | true => (cE G n sc N a).bind fun f => (cE G n sc N i).map fun g => gSub f g
    | _ => none
def cGs (G : GE) : Nat → Scope → List Str → List Expr → Option (List MG)
  | 0, _, _, _ => none
  | n + 1, sc, N, es => match es with
    | [] => some []
    | e :: es => (cG G n sc N e).bind fun g => (cGs G n sc N es).map fun gs => g :: gs
/-- built-ins -/
def cBlt (G : GE) : Nat → Scope → List Str → Expr → Str → List Expr → Pos → Option ME
  | 0, _, _, _, _, _, _ => none
  | n + 1, sc, N, e, x, args, p => match args with
    | [.Call (.Name y _) [.Starred a _] [] _] => match isB G sc y "zip" && decide (x = "tuple") with
      | true => (cE G n sc N a).map eZipS
      | false => none
    | [.Call (.Name y _) [a] [] _] => match isB G sc y "set" with
      | true => match decide (x = "sorted") with
        | true => (cE G n sc N a).map fun f => if G.isMu p then eMu (lSortedSet f) else eFz (lSortedSet f)
        | false => match decide (x = "len") with
          | true => (cE G n sc N a).map eLenSet
          | false => none
      | false => cBlt1 G n sc N e x args p
    | args => cBlt1 G n sc N e x args p
def cBlt1 (G : GE) : Nat → Scope → List Str → Expr → Str → List Expr → Pos → Option ME
  | 0, _, _, _, _, _, _ => none
  | n + 1, sc, N, e, x, args, p => match args with
    | [a] => match decide (x = "list") with
      | true => (cLs G n sc N a).map fun f => if G.isMu p then eMu f else eFz f
      | false => match decide (x = "sorted") with
        | true => (cE G n sc N a).map fun f => if G.isMu p then eMu (lSorted f) else eFz (lSorted f)
        | false => (cB1 x).bind fun h => (cE G n sc N a).map fun f => eB h (aCons f aNil)
    | [a, b] => match decide (x = "isinstance") with
      | true => match b with
        | .Name y _ => match okN y && (isGl sc y && G.blt.any fun z => decide (z = y)) with
          | true => (cTy y).bind fun t => (cE G n sc N a).map fun f => eIsi f t
          | false => none
        | _ => none
      | false => match decide (x = "gcd") with
        | true => (cA G n sc N [a, b]).map (eB gcdD)
        | false => (cB2 x).bind fun h => (cA G n sc N [a, b]).map (eB h)
    | _ => none
/-- list(a) -/
def cLs (G : GE) : Nat → Scope → List Str → Expr → Option MA
  | 0, _, _, _ => none
  | n + 1, sc, N, a => match a with
    | .Call (.Name y _) args [] _ => match isB G sc y "range" with
      | true => match args with
        | [b] => (cE G n sc N b).map lRg1
        | [b, d] => (cE G n sc N b).bind fun f => (cE G n sc N d).map fun g => lRg2 f g
        | _ => none
      | false => (cE G n sc N a).map lOf
    | a => (cE G n sc N a).map lOf
def cMeth (G : GE) : Nat → Scope → List Str → Expr → Str → List Expr → Option ME
  | 0, _, _, _, _, _ => none
  | n + 1, sc, N, o, m, args => match args with
    | [a] => (cE G n sc N o).bind fun f => (cE G n sc N a).bind fun g => if m = "append" then some (eMeth appD f g) else if m = "pop" then some (eMeth popD f g) else if m = "index" then some (eMeth indexD f g) else none
    | [] => (cE G n sc N o).bind fun f => if m = "upper" then some (eUn upperD f) else none
    | _ => none
end
mutual
def cS (G : GE) : Nat → Scope → List Str → Stmt → Option MS
  | 0, _, _, _ => none
  | n + 1, sc, N, s => match s with
    | .Return none _ => some sRetN
    | .Return (some e) _ => (cE G 200 sc N e).map sRet
    | .Expr (.Constant (.str _) _ _) _ => some sNext
    | .Expr e _ => if notComp e then (cE G 200 sc N e).map sDrop else none
    | .Assign [.Tuple ts tk tp] (.Tuple vs vk vp) _ => match decide (ts.length = 2 ∨ ts.length = 3) && decide (vs.length = ts.length) with
      | true => match namesOf sc ((ts.head?.map (·.pos.line)).getD 0) ts with
        | some xs => match decide xs.Nodup && starFree vs with
          | true => match vs.all (foldedForSure 8) with
            | true => (cE G 200 sc N (.Tuple vs vk vp)).bind fun f => (cG G 200 sc N (.Tuple ts tk tp)).map fun g => sAsg f g
            | false => match vs.all (constantsAlone 8) with
              | true => none
              | false => (xs.mapM (slot N)).bind fun is => (cA G 200 sc N vs).map fun f => sPar f is
          | false => none
        | none => match starFree vs with
          | true => (cE G 200 sc N (.Tuple vs vk vp)).bind fun f => (cG G 200 sc N (.Tuple ts tk tp)).map fun g => sAsg f g
          | false => none
      | false => match decide (3 < ts.length) && starFree vs with
        | true => (cE G 200 sc N (.Tuple vs vk vp)).bind fun f => (cG G 200 sc N (.Tuple ts tk tp)).map fun g => sAsg f g
        | false => none
    | .Assign [t] e p => match notComp e || (match t, e with
        | .Name _ _, .ListComp _ _ _ _ => true
        | .Subscript _ _ _, .ListComp _ _ _ _ => true
        | _, _ => false) with
      | true => (cE G 200 sc N e).bind fun f => (cG G 200 sc N t).map fun g => sAsg f g
      | false => none
    | .If t a b _ => (cT G 200 sc N t).bind fun h => (cB G n sc N a).bind fun f => (cB G n sc N b).map fun g => sIf h f g
    | .For t i b [] _ => match notSet i && tgtIt sc t i with
      | true => (cI G 200 sc N i).bind fun z => (cG G 200 sc N t).bind fun g => (cB G n sc N b).map fun f => sFor z g f
      | false => none
    | .While t b [] _ => (cT G 200 sc N t).bind fun h => (cB G n sc N b).map fun f => sWhile h f
    | .Break _ => some sBreak
    | .Continue _ => some sCont
    | .Pass _ => some sNext
    | .Raise _ _ _ => some sNever
    | _ => none
def cB (G : GE) : Nat → Scope → List Str → List Stmt → Option MS
  | 0, _, _, _ => none
  | n + 1, sc, N, ss => match ss with
    | [] => some sNext
    | s :: ss => (cS G n sc N s).bind fun f => (cB G n sc N ss).map fun g => sSeq f g
end
def cF (G : GE) (N : List Str) (np : Nat) (fz : Bool) (sc : Scope) (body : List Stmt) : Option Fn := match isFun sc with
  | true => (cB G 200 sc N body).map fun f => ⟨np, N.length, fz, f⟩
  | false => none
end MI

/-! MI3: how data lie in the heap. -/
namespace MI
open PySem PySem.Spec PyProof.Rows L2

abbrev Fz := Addr → Prop
def addF (F : Fz) (p : Addr) : Fz := fun a => F a ∨ a = p
section
variable (K : PySem.W.Frag)
def TupAt (F : Fz) (H : Hp) (a : Addr) (vs : List V) : Prop := (F a ∧ H a = some (.tup vs)) ∨ ∀ H' : Hp, SqT K H' a vs
def ScrAt (F : Fz) (H : Hp) (a : Addr) (vs : List V) : Prop := (F a ∧ Rd H a (.lst vs)) ∨ ∀ H' : Hp, SqL K H' a vs
section
variable (F : Fz) (μ : List Addr) (H : Hp)
mutual
def Rep : D → V → Prop
  | .non, v => v = .non
  | .bl b, v => v = .bl b
  | .int i, v => v = .int i
  | .str x, v => v = .str x
  | .tup xs, v => ∃ a vs, v = .ref a ∧ TupAt K F H a vs ∧ Reps xs vs
  | .lst xs, v => ∃ a vs, v = .ref a ∧ F a ∧ H a = some (.lst vs) ∧ Reps xs vs
  | .dct kvs, v => ∃ a vs, v = .ref a ∧ F a ∧ H a = some (.dK vs) ∧ RepK kvs vs
  | .loc n, v => ∃ a, v = .ref a ∧ μ[n]? = some a
  | .scr ns, v => ∃ a, v = .ref a ∧ ScrAt K F H a (ns.map V.int)
def Reps : List D → List V → Prop
  | [], vs => vs = []
  | d :: ds, vs => ∃ v r, vs = v :: r ∧ Rep d v ∧ Reps ds r
def RepK : List (Key × D) → List (Key × V) → Prop
  | [], vs => vs = []
  | (k, d) :: ds, vs => ∃ v r, vs = (k, v) :: r ∧ Rep d v ∧ RepK ds r
end
def RepF : List (Str × D) → List (Str × V) → Prop
  | [], vs => vs = []
  | (k, d) :: ds, vs => ∃ v r, vs = (k, v) :: r ∧ Rep K F μ H d v ∧ RepF ds r
def RepO : MO → HO → Prop
  | .lst xs, o => pureL xs = true ∧ ∃ vs, o = .lst vs ∧ Reps K F μ H xs vs
  | .dct kvs, o => pureK kvs = true ∧ ∃ vs, o = .dK vs ∧ RepK K F μ H kvs vs
  | .ins c fs, o => pureF fs = true ∧ ∃ dx vs, o = .ins (He.ga K c) dx vs ∧ RepF K F μ H fs vs
def RepX (e : Ex) (cls : Value) (od : Option Addr) : Prop := cls = .ref (He.ga K e.cls) ∧ ∃ d vs, od = some d ∧ F d ∧ H d = some (.xd vs) ∧ RepF K F μ H e.fs vs
structure Rl (S : Sto) : Prop where
  fz : ∀ a, F a → H a ≠ none
  len : μ.length = S.length
  nd : μ.Nodup
  nf : ∀ a, F a → a ∉ μ
  obj : ∀ (n : Nat) (o : MO) (a : Addr), S[n]? = some o → μ[n]? = some a → ∃ h, H a = some h ∧ RepO K F μ H o h
end
end
structure Ext (F : Fz) (μ : List Addr) (H : Hp) (F' : Fz) (μ' : List Addr) (H' : Hp) : Prop where
  pre : ∀ (n : Nat) (a : Addr), μ[n]? = some a → μ'[n]? = some a
  new : ∀ a, a ∈ μ' → a ∈ μ ∨ H a = none
  frz : ∀ a, F a → F' a
  newF : ∀ a, F' a → F a ∨ H a = none
  keep : ∀ a o, H a = some o → a ∉ μ → H' a = some o
  there : ∀ a, H a ≠ none → H' a ≠ none
  nf : ∀ a, F a → a ∉ μ
section
variable {K : PySem.W.Frag} {F F' F'' : Fz} {μ μ' μ'' : List Addr} {H H' H'' : Hp} {S S' : Sto}
theorem Ext.sub (e : Ext F μ H F' μ' H') {a : Addr} (h : a ∈ μ) : a ∈ μ' := by
  obtain ⟨n, hn⟩ := List.mem_iff_getElem?.mp h
  exact List.mem_iff_getElem?.mpr ⟨n, e.pre n a hn⟩
theorem Rl.ref (r : Rl K F μ H S) : Ext F μ H F μ H := ⟨fun _ _ h => h, fun _ h => .inl h, fun _ h => h, fun _ h => .inl h, fun _ _ h _ => h, fun _ h => h, r.nf⟩
theorem Ext.trans (e1 : Ext F μ H F' μ' H') (e2 : Ext F' μ' H' F'' μ'' H'') : Ext F μ H F'' μ'' H'' where
  pre := fun n a h => e2.pre n a (e1.pre n a h)
  new := fun a h => by
    rcases e2.new a h with h | h
    · exact e1.new a h
    · exact .inr (Classical.byContradiction fun q => e1.there a q h)
  frz := fun a h => e2.frz a (e1.frz a h)
  newF := fun a h => by
    rcases e2.newF a h with h | h
    · exact e1.newF a h
    · exact .inr (Classical.byContradiction fun q => e1.there a q h)
  keep := fun a o h n => e2.keep a o (e1.keep a o h n) fun q => by
    rcases e1.new a q with q | q
    · exact n q
    · rw [q] at h; cases h
  there := fun a h => e2.there a (e1.there a h)
  nf := e1.nf
theorem TupAt.sq {a : Addr} {vs : List V} (h : TupAt K F H a vs) : SqT K H a vs := by
  rcases h with ⟨_, h⟩ | h
  · exact SqT.of h
  · exact h H
theorem ScrAt.sq {a : Addr} {vs : List V} (h : ScrAt K F H a vs) : SqL K H a vs := by
  rcases h with ⟨_, h⟩ | h
  · exact .inl h
  · exact h H
/-- enough for data to lie as they lay -/
structure Mono (F : Fz) (μ : List Addr) (H : Hp) (F' : Fz) (μ' : List Addr) (H' : Hp) : Prop where
  pre : ∀ (n : Nat) (a : Addr), μ[n]? = some a → μ'[n]? = some a
  frz : ∀ a, F a → F' a
  kp : ∀ {a : Addr} {o : HO}, F a → H a = some o → H' a = some o
theorem Ext.mono (e : Ext F μ H F' μ' H') : Mono F μ H F' μ' H' := ⟨e.pre, e.frz, fun hf h => e.keep _ _ h (e.nf _ hf)⟩
mutual
theorem Rep.mono (e : Mono F μ H F' μ' H') : ∀ {d : D} {v : V}, Rep K F μ H d v → Rep K F' μ' H' d v
  | .non, _, h => by unfold Rep at h ⊢; exact h
  | .bl _, _, h => by unfold Rep at h ⊢; exact h
  | .int _, _, h => by unfold Rep at h ⊢; exact h
  | .str _, _, h => by unfold Rep at h ⊢; exact h
  | .tup xs, _, h => by
    unfold Rep at h ⊢
    obtain ⟨a, vs, e1, t, r⟩ := h
    refine ⟨a, vs, e1, ?_, Reps.mono e r⟩
    rcases t with ⟨hf, t⟩ | t
    · exact .inl ⟨e.frz a hf, e.kp hf t⟩
    · exact .inr t
  | .lst xs, _, h => by
    unfold Rep at h ⊢
    obtain ⟨a, vs, e1, hf, t, r⟩ := h
    exact ⟨a, vs, e1, e.frz a hf, e.kp hf t, Reps.mono e r⟩
  | .dct xs, _, h => by
    unfold Rep at h ⊢
    obtain ⟨a, vs, e1, hf, t, r⟩ := h
    exact ⟨a, vs, e1, e.frz a hf, e.kp hf t, RepK.mono e r⟩
  | .loc n, _, h => by
    unfold Rep at h ⊢
    obtain ⟨a, e1, h⟩ := h
    exact ⟨a, e1, e.pre n a h⟩
  | .scr ns, _, h => by
    unfold Rep at h ⊢
    obtain ⟨a, e1, t⟩ := h
    refine ⟨a, e1, ?_⟩
    rcases t with ⟨hf, t⟩ | t
    · refine .inl ⟨e.frz a hf, ?_⟩
      rcases t with t | ⟨o, t⟩
      · exact .inl (e.kp hf t)
      · exact .inr ⟨o, e.kp hf t⟩
    · exact .inr t
theorem Reps.mono (e : Mono F μ H F' μ' H') : ∀ {ds : List D} {vs : List V}, Reps K F μ H ds vs → Reps K F' μ' H' ds vs
  | [], _, h => by unfold Reps at h ⊢; exact h
  | _ :: _, _, h => by
    unfold Reps at h ⊢
    obtain ⟨v, r, e1, h1, h2⟩ := h
    exact ⟨v, r, e1, Rep.mono e h1, Reps.mono e h2⟩
theorem RepK.mono (e : Mono F μ H F' μ' H') : ∀ {ds : List (Key × D)} {vs : List (Key × V)}, RepK K F μ H ds vs → RepK K F' μ' H' ds vs
  | [], _, h => by unfold RepK at h ⊢; exact h
  | (_, _) :: _, _, h => by
    unfold RepK at h ⊢
    obtain ⟨v, r, e1, h1, h2⟩ := h
    exact ⟨v, r, e1, Rep.mono e h1, RepK.mono e h2⟩
end
theorem RepF.mono (e : Mono F μ H F' μ' H') : ∀ {ds : List (Str × D)} {vs : List (Str × V)}, RepF K F μ H ds vs → RepF K F' μ' H' ds vs
  | [], _, h => by unfold RepF at h ⊢; exact h
  | (_, _) :: _, _, h => by
    unfold RepF at h ⊢
    obtain ⟨v, r, e1, h1, h2⟩ := h
    exact ⟨v, r, e1, Rep.mono e h1, RepF.mono e h2⟩
theorem RepO.mono (e : Mono F μ H F' μ' H') : ∀ {o : MO} {h : HO}, RepO K F μ H o h → RepO K F' μ' H' o h
  | .lst xs, _, ⟨p, vs, e1, r⟩ => ⟨p, vs, e1, Reps.mono e r⟩
  | .dct xs, _, ⟨p, vs, e1, r⟩ => ⟨p, vs, e1, RepK.mono e r⟩
  | .ins c fs, _, ⟨p, dx, vs, e1, r⟩ => ⟨p, dx, vs, e1, RepF.mono e r⟩
theorem RepX.mono (e : Mono F μ H F' μ' H') {x : Ex} {cls : Value} {od : Option Addr} (h : RepX K F μ H x cls od) : RepX K F' μ' H' x cls od := by
  obtain ⟨e1, d, vs, e2, hf, hd, r⟩ := h
  exact ⟨e1, d, vs, e2, e.frz d hf, e.kp hf hd, RepF.mono e r⟩

theorem Rep.ext (e : Ext F μ H F' μ' H') {d : D} {v : V} (h : Rep K F μ H d v) : Rep K F' μ' H' d v := h.mono e.mono
theorem Reps.ext (e : Ext F μ H F' μ' H') {d : List D} {v : List V} (h : Reps K F μ H d v) : Reps K F' μ' H' d v := h.mono e.mono
theorem RepO.ext (e : Ext F μ H F' μ' H') {d : MO} {v : HO} (h : RepO K F μ H d v) : RepO K F' μ' H' d v := h.mono e.mono
theorem RepX.ext (e : Ext F μ H F' μ' H') {x : Ex} {cls : Value} {od : Option Addr} (h : RepX K F μ H x cls od) : RepX K F' μ' H' x cls od := h.mono e.mono

/-! ### lists of data -/
theorem Reps.length : ∀ {ds : List D} {vs : List V}, Reps K F μ H ds vs → vs.length = ds.length
  | [], _, h => by unfold Reps at h; rw [h]; rfl
  | _ :: _, _, h => by
    unfold Reps at h
    obtain ⟨v, r, e1, h1, h2⟩ := h
    rw [e1, List.length_cons, List.length_cons, Reps.length h2]
theorem Reps.nil : Reps K F μ H [] [] := by unfold Reps; rfl
theorem Reps.cons {d : D} {ds : List D} {v : V} {vs : List V} (h1 : Rep K F μ H d v) (h2 : Reps K F μ H ds vs) : Reps K F μ H (d :: ds) (v :: vs) := by
  unfold Reps; exact ⟨v, vs, rfl, h1, h2⟩
theorem Reps.consI {d : D} {ds : List D} {vs : List V} (h : Reps K F μ H (d :: ds) vs) : ∃ v r, vs = v :: r ∧ Rep K F μ H d v ∧ Reps K F μ H ds r := by
  unfold Reps at h; exact h
theorem Reps.nilI {vs : List V} (h : Reps K F μ H [] vs) : vs = [] := by unfold Reps at h; exact h
theorem Reps.append : ∀ {ds es : List D} {vs us : List V}, Reps K F μ H ds vs → Reps K F μ H es us → Reps K F μ H (ds ++ es) (vs ++ us)
  | [], _, _, _, h, g => by rw [h.nilI]; exact g
  | d :: ds, _, _, _, h, g => by
    obtain ⟨v, r, e1, h1, h2⟩ := h.consI
    subst e1
    exact Reps.cons h1 (Reps.append h2 g)
theorem Reps.get : ∀ {ds : List D} {vs : List V} {i : Nat} {d : D}, Reps K F μ H ds vs → ds[i]? = some d → ∃ v, vs[i]? = some v ∧ Rep K F μ H d v
  | [], _, _, _, _, e => by simp at e
  | d :: ds, _, 0, _, h, e => by
    obtain ⟨v, r, e1, h1, h2⟩ := h.consI
    subst e1
    simp at e
    subst e
    exact ⟨v, rfl, h1⟩
  | d :: ds, _, i + 1, d', h, e => by
    obtain ⟨v, r, e1, h1, h2⟩ := h.consI
    subst e1
    simp at e
    obtain ⟨u, a, b⟩ := Reps.get h2 e
    exact ⟨u, by simpa using a, b⟩
theorem Reps.getV : ∀ {ds : List D} {vs : List V} {i : Nat} {v : V}, Reps K F μ H ds vs → vs[i]? = some v → ∃ d, ds[i]? = some d ∧ Rep K F μ H d v
  | [], _, _, _, h, e => by rw [h.nilI] at e; simp at e
  | d :: ds, _, 0, _, h, e => by
    obtain ⟨v, r, e1, h1, h2⟩ := h.consI
    subst e1
    simp at e
    subst e
    exact ⟨d, rfl, h1⟩
  | d :: ds, _, i + 1, v', h, e => by
    obtain ⟨v, r, e1, h1, h2⟩ := h.consI
    subst e1
    simp at e
    obtain ⟨u, a, b⟩ := Reps.getV h2 e
    exact ⟨u, by simpa using a, b⟩
theorem Reps.drop : ∀ (n : Nat) {ds : List D} {vs : List V}, Reps K F μ H ds vs → Reps K F μ H (ds.drop n) (vs.drop n)
  | 0, _, _, h => h
  | n + 1, [], _, h => by rw [h.nilI]; exact Reps.nil
  | n + 1, d :: ds, _, h => by
    obtain ⟨v, r, e1, h1, h2⟩ := h.consI
    subst e1
    exact Reps.drop n h2
theorem Reps.take : ∀ (n : Nat) {ds : List D} {vs : List V}, Reps K F μ H ds vs → Reps K F μ H (ds.take n) (vs.take n)
  | 0, _, _, _ => Reps.nil
  | n + 1, [], _, h => by rw [h.nilI]; exact Reps.nil
  | n + 1, d :: ds, _, h => by
    obtain ⟨v, r, e1, h1, h2⟩ := h.consI
    subst e1
    exact Reps.cons h1 (Reps.take n h2)
theorem Reps.set {d : D} {v : V} (hd : Rep K F μ H d v) : ∀ (n : Nat) {ds : List D} {vs : List V}, Reps K F μ H ds vs → Reps K F μ H (ds.set n d) (vs.set n v)
  | n, [], _, h => by rw [h.nilI]; exact Reps.nil
  | 0, _ :: ds, _, h => by
    obtain ⟨v, r, e1, h1, h2⟩ := h.consI
    subst e1
    exact Reps.cons hd h2
  | n + 1, d :: ds, _, h => by
    obtain ⟨v, r, e1, h1, h2⟩ := h.consI
    subst e1
    exact Reps.cons h1 (Reps.set hd n h2)
theorem Reps.eraseIdx : ∀ (n : Nat) {ds : List D} {vs : List V}, Reps K F μ H ds vs → Reps K F μ H (ds.eraseIdx n) (vs.eraseIdx n)
  | n, [], _, h => by rw [h.nilI]; exact Reps.nil
  | 0, _ :: ds, _, h => by
    obtain ⟨v, r, e1, h1, h2⟩ := h.consI
    subst e1
    exact h2
  | n + 1, d :: ds, _, h => by
    obtain ⟨v, r, e1, h1, h2⟩ := h.consI
    subst e1
    exact Reps.cons h1 (Reps.eraseIdx n h2)
theorem Reps.reverse : ∀ {ds : List D} {vs : List V}, Reps K F μ H ds vs → Reps K F μ H ds.reverse vs.reverse
  | [], _, h => by rw [h.nilI]; exact Reps.nil
  | d :: ds, _, h => by
    obtain ⟨v, r, e1, h1, h2⟩ := h.consI
    subst e1
    rw [List.reverse_cons, List.reverse_cons]
    exact (Reps.reverse h2).append (Reps.cons h1 Reps.nil)
theorem Reps.rep {ds : List D} {vs : List V} (h : Reps K F μ H ds vs) : ∀ n : Nat, Reps K F μ H (List.replicate n ds).flatten (List.replicate n vs).flatten
  | 0 => Reps.nil
  | n + 1 => by
    rw [List.replicate_succ, List.replicate_succ, List.flatten_cons, List.flatten_cons]
    exact h.append (Reps.rep h n)
theorem Reps.cut {ds : List D} {vs : List V} (h : Reps K F μ H ds vs) (lo hi : Option Int) : Reps K F μ H (MI.cut ds lo hi) (cutV vs lo hi) := by
  unfold MI.cut cutV
  rw [h.length]
  exact (h.drop _).take _
theorem reps_ints : ∀ (ns : List Int), Reps K F μ H (ns.map D.int) (ns.map V.int)
  | [] => Reps.nil
  | n :: ns => Reps.cons (by unfold Rep; rfl) (reps_ints ns)
theorem ints_of : ∀ {ds : List D} {vs : List V} {ns : List Int}, Reps K F μ H ds vs → intsO ds = some ns → vs = ns.map V.int
  | [], _, _, h, e => by
    rw [h.nilI]
    have : ([] : List Int) = _ := Option.some.inj e
    rw [← this]; rfl
  | d :: ds, _, ns, h, e => by
    obtain ⟨v, r, e1, h1, h2⟩ := h.consI
    subst e1
    cases d <;> try (unfold intsO at e; cases e)
    rename_i i
    unfold intsO at e
    cases q : intsO ds with
    | none => rw [q] at e; cases e
    | some ms =>
      rw [q] at e
      have e2 : i :: ms = ns := Option.some.inj e
      subst e2
      unfold Rep at h1
      rw [h1, ints_of h2 q]; rfl
theorem bls_of : ∀ {ds : List D} {vs : List V} {ns : List Bool}, Reps K F μ H ds vs → blsO ds = some ns → vs = ns.map V.bl
  | [], _, _, h, e => by
    rw [h.nilI]
    have : ([] : List Bool) = _ := Option.some.inj e
    rw [← this]; rfl
  | d :: ds, _, ns, h, e => by
    obtain ⟨v, r, e1, h1, h2⟩ := h.consI
    subst e1
    cases d <;> try (unfold blsO at e; cases e)
    rename_i i
    unfold blsO at e
    cases q : blsO ds with
    | none => rw [q] at e; cases e
    | some ms =>
      rw [q] at e
      have e2 : i :: ms = ns := Option.some.inj e
      subst e2
      unfold Rep at h1
      rw [h1, bls_of h2 q]; rfl

/-! ### what changes -/
theorem Rl.mem (r : Rl K F μ H S) {a : Addr} (h : a ∈ μ) : ∃ (n : Nat) (o : MO) (h : HO), μ[n]? = some a ∧ S[n]? = some o ∧ H a = some h ∧ RepO K F μ H o h := by
  obtain ⟨n, hn⟩ := List.mem_iff_getElem?.mp h
  have hl : n < S.length := by rw [← r.len]; exact (List.getElem?_eq_some_iff.mp hn).1
  obtain ⟨h, h1, h2⟩ := r.obj n S[n] a (List.getElem?_eq_getElem hl) hn
  exact ⟨n, S[n], h, hn, List.getElem?_eq_getElem hl, h1, h2⟩
theorem Rl.fresh (r : Rl K F μ H S) {p : Addr} (h : H p = none) : p ∉ μ := fun q => by
  obtain ⟨_, _, _, _, _, e, _⟩ := r.mem q
  rw [h] at e; cases e
theorem Rl.freshF (r : Rl K F μ H S) {p : Addr} (h : H p = none) : ¬ F p := fun q => r.fz p q h
/-- a new thing that stands still -/
theorem Rl.laid (r : Rl K F μ H S) {p : Addr} (hp : H p = none) (o : HO) : Ext F μ H (addF F p) μ (upd H p o) ∧ Rl K (addF F p) μ (upd H p o) S := by
  have e : Ext F μ H (addF F p) μ (upd H p o) := ⟨fun _ _ h => h, fun _ h => .inl h, fun _ h => .inl h, fun a h => h.elim .inl fun q => .inr (q ▸ hp), fun a o' h _ => by
      rw [upd_ne (ne_of_none h hp)]; exact h, fun a h => by
      by_cases q : a = p
      · rw [q, upd_same]; simp
      · rw [upd_ne q]; exact h, r.nf⟩
  refine ⟨e, ⟨fun a h => ?_, r.len, r.nd, fun a h q => ?_, fun n o' a h1 h2 => ?_⟩⟩
  · rcases h with h | h
    · exact e.there a (r.fz a h)
    · rw [h, upd_same]; simp
  · rcases h with h | h
    · exact r.nf a h q
    · exact r.fresh hp (h ▸ q)
  · obtain ⟨x, x1, x2⟩ := r.obj n o' a h1 h2
    exact ⟨x, by rw [upd_ne (ne_of_none x1 hp)]; exact x1, x2.ext e⟩
/-- what stands in the heap, free so far, stands still from now on -/
theorem Rl.still (r : Rl K F μ H S) {p : Addr} (hp : H p ≠ none) (hm : p ∉ μ) : Rl K (addF F p) μ H S := by
  refine ⟨fun a h => ?_, r.len, r.nd, fun a h q => ?_, fun n o' a h1 h2 => ?_⟩
  · rcases h with h | h
    · exact r.fz a h
    · rw [h]; exact hp
  · rcases h with h | h
    · exact r.nf a h q
    · exact hm (h ▸ q)
  · obtain ⟨x, x1, x2⟩ := r.obj n o' a h1 h2
    exact ⟨x, x1, x2.mono ⟨fun _ _ h => h, fun _ h => .inl h, fun _ h => h⟩⟩
/-- .. and it is given a place in the store -/
theorem Rl.newM (r : Rl K F μ H S) {p : Addr} {o : MO} {x : HO} (hp : H p = some x) (hm : p ∉ μ) (hf : ¬ F p) (ho : RepO K F μ H o x) : Rl K F (μ ++ [p]) H (S ++ [o]) := by
  have mm : Mono F μ H F (μ ++ [p]) H := ⟨fun n a h => by
    rw [List.getElem?_append_left (List.getElem?_eq_some_iff.mp h).1]; exact h, fun _ h => h, fun _ h => h⟩
  refine ⟨r.fz, by simp [r.len], ?_, fun a h q => ?_, fun n o' a h1 h2 => ?_⟩
  · rw [List.nodup_append]
    refine ⟨r.nd, by simp, fun a ha b hb e => ?_⟩
    have : b = p := by simpa using hb
    subst this
    exact hm (e ▸ ha)
  · rcases List.mem_append.mp q with q | q
    · exact r.nf a h q
    · have : a = p := by simpa using q
      subst this
      exact hf h
  · by_cases hn : n < μ.length
    · rw [List.getElem?_append_left (by rw [← r.len]; exact hn)] at h1
      rw [List.getElem?_append_left hn] at h2
      obtain ⟨y, y1, y2⟩ := r.obj n o' a h1 h2
      exact ⟨y, y1, y2.mono mm⟩
    · rw [List.getElem?_append_right (by omega)] at h2
      rw [List.getElem?_append_right (by rw [← r.len]; omega)] at h1
      have e0 : n - μ.length = 0 := by
        have := (List.getElem?_eq_some_iff.mp h2).1
        simp at this
        omega
      rw [e0] at h2
      rw [← r.len, e0] at h1
      simp at h1 h2
      subst h1 h2
      exact ⟨x, hp, ho.mono mm⟩
/-- a thing of the store is changed -/
theorem Rl.set (r : Rl K F μ H S) {n : Nat} {a : Addr} {o : MO} {x : HO} (hn : μ[n]? = some a) (ho : RepO K F μ H o x) : Ext F μ H F μ (upd H a x) ∧ Rl K F μ (upd H a x) (S.set n o) := by
  have am : a ∈ μ := List.mem_iff_getElem?.mpr ⟨n, hn⟩
  have e : Ext F μ H F μ (upd H a x) := ⟨fun _ _ h => h, fun _ h => .inl h, fun _ h => h, fun _ h => .inl h, fun b o' h nb => by
      rw [upd_ne (fun (q : b = a) => nb (by rw [q]; exact am))]; exact h, fun b h => by
      by_cases q : b = a
      · rw [q, upd_same]; simp
      · rw [upd_ne q]; exact h, r.nf⟩
  refine ⟨e, ⟨fun b h => e.there b (r.fz b h), by rw [List.length_set]; exact r.len, r.nd, r.nf, fun m o' b h1 h2 => ?_⟩⟩
  by_cases q : m = n
  · subst q
    rw [hn] at h2
    cases h2
    have hl : m < S.length := by rw [← r.len]; exact (List.getElem?_eq_some_iff.mp hn).1
    rw [List.getElem?_set_self hl] at h1
    cases h1
    exact ⟨x, upd_same, ho.ext e⟩
  · rw [List.getElem?_set_ne (Ne.symm q)] at h1
    obtain ⟨y, y1, y2⟩ := r.obj m o' b h1 h2
    refine ⟨y, ?_, y2.ext e⟩
    have : b ≠ a := fun z => by
      subst z
      obtain ⟨l1, e1⟩ := List.getElem?_eq_some_iff.mp hn
      obtain ⟨l2, e2⟩ := List.getElem?_eq_some_iff.mp h2
      exact q ((List.getElem_inj r.nd).mp (e2.trans e1.symm))
    rw [upd_ne this]; exact y1
end
end MI

/-! MI4: readings. -/
namespace MI
open PySem PySem.Spec PyProof.Rows L2

section
variable (K : PySem.W.Frag)
/-- the slots -/
structure SlR (F : Fz) (μ : List Addr) (H : Hp) (ρ : Env) (σ : L2.St) : Prop where
  len : ρ.length = σ.length
  get : ∀ (i : Nat) (d : D), ρ[i]? = some (some d) → ∃ v, σ[i]? = some (some v) ∧ Rep K F μ H d v
/-- what is wanted behind a piece -/
def post {α : Type} (F : Fz) (μ : List Addr) (H : Hp) (o : Out α) (P : α → Fz → List Addr → Sto → Hp → Prop) (W : XK) : Prop := match o with
  | .ok d S' => ∀ F' μ' H', Ext F μ H F' μ' H' → Rl K F' μ' H' S' → P d F' μ' S' H'
  | .exc e S' => ∀ F' μ' H', Ext F μ H F' μ' H' → Rl K F' μ' H' S' → ∀ cls od, RepX K F' μ' H' e cls od → W cls od H'
  | .bad => False
def rdE (W : XK) (c : Call) (f : ME) : TE := fun σ H Q => ∃ F μ S ρ, Rl K F μ H S ∧ SlR K F μ H ρ σ ∧ post K F μ H (f c ρ S) (fun d F' μ' _ H' => ∀ v, Rep K F' μ' H' d v → Q v H') W
def rdT (W : XK) (c : Call) (f : MT) : TT := fun σ H Q => ∃ F μ S ρ, Rl K F μ H S ∧ SlR K F μ H ρ σ ∧ post K F μ H (f c ρ S) (fun b _ _ _ H' => Q b H') W
def rdA (W : XK) (c : Call) (f : MA) : TA := fun σ H Q => ∃ F μ S ρ, Rl K F μ H S ∧ SlR K F μ H ρ σ ∧ post K F μ H (f c ρ S) (fun ds F' μ' _ H' => ∀ vs, Reps K F' μ' H' ds vs → Q vs H') W
/-- a new list -/
def rdL (W : XK) (c : Call) (f : MA) : TE := fun σ H Q => ∃ F μ S ρ, Rl K F μ H S ∧ SlR K F μ H ρ σ ∧
  post K F μ H (f c ρ S) (fun ds F' μ' _ H' => ∀ p vs, H p = none → H' p = some (.lst vs) → ¬ F' p → p ∉ μ' → Reps K F' μ' H' ds vs → Q (.ref p) H') W
def rdO (W : XK) (c : Call) (f : Call → Env → M (Option Int)) : TO := fun σ H Q => ∃ F μ S ρ, Rl K F μ H S ∧ SlR K F μ H ρ σ ∧ post K F μ H (f c ρ S) (fun i _ _ _ H' => Q i H') W
/-- targets; vs: the slots that they set -/
def rdG (W : XK) (c : Call) (vs : List Nat) (g : MG) : TG := fun v σ H Q => ∃ F μ S ρ d, Rl K F μ H S ∧ SlR K F μ H ρ σ ∧ Rep K F μ H d v ∧
  post K F μ H (g c d ρ S) (fun ρ1 F' μ' _ H' => ∀ σ1, SlR K F' μ' H' ρ1 σ1 → (∀ us : List Nat, (∀ i ∈ vs, i ∈ us) → L2.wipe σ1 us = L2.wipe σ us) → Q σ1 H') W
def rdGs (W : XK) (c : Call) (vs : List Nat) (gs : List MG) : TGs := fun xs σ H Q => ∃ F μ S ρ ds, Rl K F μ H S ∧ SlR K F μ H ρ σ ∧ Reps K F μ H ds xs ∧
  post K F μ H (gList gs c ds ρ S) (fun ρ1 F' μ' _ H' => ∀ σ1, SlR K F' μ' H' ρ1 σ1 → (∀ us : List Nat, (∀ i ∈ vs, i ∈ us) → L2.wipe σ1 us = L2.wipe σ us) → Q σ1 H') W
def flow (D : Ends) (fl : Fl) (F : Fz) (μ : List Addr) (H : Hp) : Prop := match fl with
  | .nx ρ => ∀ σ, SlR K F μ H ρ σ → D.nx σ H
  | .rt d => ∀ v, Rep K F μ H d v → D.rt v H
  | .bk ρ => ∀ σ, SlR K F μ H ρ σ → D.bk σ H
  | .ct ρ => ∀ σ, SlR K F μ H ρ σ → D.ct σ H
def rdS (W : XK) (c : Call) (f : MS) : TS := fun D σ H => ∃ F μ S ρ, Rl K F μ H S ∧ SlR K F μ H ρ σ ∧ post K F μ H (f c ρ S) (fun fl F' μ' _ H' => flow K D fl F' μ' H') W
end

section
variable {K : PySem.W.Frag} {F F' F1 : Fz} {μ μ' μ1 : List Addr} {H H' H1 : Hp} {S S' S1 : Sto} {ρ : Env} {σ : L2.St} {W : XK} {α β : Type}
theorem SlR.ext (s : SlR K F μ H ρ σ) (e : Ext F μ H F' μ' H') : SlR K F' μ' H' ρ σ := ⟨s.len, fun i d h => let ⟨v, a, b⟩ := s.get i d h; ⟨v, a, b.ext e⟩⟩
theorem SlR.set (s : SlR K F μ H ρ σ) {d : D} {v : V} (h : Rep K F μ H d v) (i : Nat) : SlR K F μ H (ρ.set i (some d)) (σ.set i (some v)) := by
  refine ⟨by simp [s.len], fun j e hj => ?_⟩
  by_cases q : i = j
  · subst q
    by_cases hl : i < ρ.length
    · rw [List.getElem?_set_self hl] at hj
      cases hj
      exact ⟨v, by rw [List.getElem?_set_self (by rw [← s.len]; exact hl)], h⟩
    · rw [List.getElem?_eq_none (by simpa using Nat.le_of_not_lt hl)] at hj
      cases hj
  · rw [List.getElem?_set_ne q] at hj ⊢
    exact s.get j e hj
theorem wipeE_get : ∀ (vs : List Nat) (ρ : Env) (i : Nat) (d : D), (wipeE ρ vs)[i]? = some (some d) → ρ[i]? = some (some d) ∧ i ∉ vs
  | [], _, _, _, h => ⟨h, by simp⟩
  | v :: vs, ρ, i, d, h => by
    unfold wipeE at h
    by_cases q : v = i
    · subst q
      by_cases hl : v < (wipeE ρ vs).length
      · rw [List.getElem?_set_self hl] at h; cases h
      · rw [List.getElem?_eq_none (by simpa using Nat.le_of_not_lt hl)] at h; cases h
    · rw [List.getElem?_set_ne q] at h
      obtain ⟨a, b⟩ := wipeE_get vs ρ i d h
      exact ⟨a, by simp [b, Ne.symm q]⟩
theorem wipeE_length : ∀ (vs : List Nat) (ρ : Env), (wipeE ρ vs).length = ρ.length
  | [], _ => rfl
  | v :: vs, ρ => by unfold wipeE; rw [List.length_set, wipeE_length vs ρ]
theorem wipe_getO : ∀ (vs : List Nat) (σ : L2.St) (i : Nat), i ∉ vs → (L2.wipe σ vs)[i]? = σ[i]?
  | [], _, _, _ => rfl
  | v :: vs, σ, i, h => by
    unfold L2.wipe
    rw [List.getElem?_set_ne (fun q => h (by simp [q])), wipe_getO vs σ i (fun q => h (List.mem_cons_of_mem _ q))]
theorem SlR.wipe (s : SlR K F μ H ρ σ) (vs : List Nat) : SlR K F μ H (wipeE ρ vs) (L2.wipe σ vs) := by
  refine ⟨by rw [wipeE_length, L2.wipe_length, s.len], fun i d h => ?_⟩
  obtain ⟨h1, h2⟩ := wipeE_get vs ρ i d h
  rw [wipe_getO vs σ i h2]
  exact s.get i d h1
theorem wipe_mem : ∀ (vs : List Nat) (σ : L2.St) (i : Nat), i ∈ vs → (L2.wipe σ vs)[i]? = if i < σ.length then some none else none
  | [], _, _, h => by cases h
  | v :: vs, σ, i, h => by
    unfold L2.wipe
    by_cases q : v = i
    · subst q
      rw [List.getElem?_set]
      simp only [L2.wipe_length, if_true]
    · rw [List.getElem?_set_ne q]
      exact wipe_mem vs σ i (by rcases List.mem_cons.mp h with z | z; exact absurd z.symm q; exact z)
/-- a slot of those that are wiped is set -/
theorem wipe_set (vs : List Nat) (σ : L2.St) (i : Nat) (x : Option V) (h : i ∈ vs) : L2.wipe (σ.set i x) vs = L2.wipe σ vs := by
  apply List.ext_getElem?
  intro j
  by_cases q : j ∈ vs
  · rw [wipe_mem vs _ j q, wipe_mem vs _ j q, List.length_set]
  · rw [wipe_getO vs _ j q, wipe_getO vs _ j q, List.getElem?_set_ne (show i ≠ j from fun e => q (e ▸ h))]
theorem wipe_twice (vs : List Nat) (σ : L2.St) : L2.wipe (L2.wipe σ vs) vs = L2.wipe σ vs := by
  apply List.ext_getElem?
  intro j
  by_cases q : j ∈ vs
  · rw [wipe_mem vs _ j q, wipe_mem vs _ j q, L2.wipe_length]
  · rw [wipe_getO vs _ j q]
theorem post.imp {o : Out α} {P P' : α → Fz → List Addr → Sto → Hp → Prop} (h : post K F μ H o P W) (i : ∀ a F' μ' S' H', Ext F μ H F' μ' H' → Rl K F' μ' H' S' → P a F' μ' S' H' → P' a F' μ' S' H') : post K F μ H o P' W := by
  cases o with
  | ok d S' => exact fun F' μ' H' e r => i d F' μ' S' H' e r (h F' μ' H' e r)
  | exc e S' => exact h
  | bad => exact h
theorem post.ext {o : Out α} {P : α → Fz → List Addr → Sto → Hp → Prop} (h : post K F μ H o P W) (e : Ext F μ H F1 μ1 H1) : post K F1 μ1 H1 o P W := by
  cases o with
  | ok d S' => exact fun F' μ' H' e' r => h F' μ' H' (e.trans e') r
  | exc x S' => exact fun F' μ' H' e' r => h F' μ' H' (e.trans e') r
  | bad => exact h
theorem post.bind {x : M α} {f : α → M β} {P : β → Fz → List Addr → Sto → Hp → Prop} (h : post K F μ H (M.bind x f S) P W) : post K F μ H (x S) (fun a F1 μ1 S1 H1 => post K F1 μ1 H1 (f a S1) P W) W := by
  unfold M.bind at h
  cases q : x S with
  | ok a S1 =>
    rw [q] at h
    exact fun F' μ' H' e r => post.ext h e
  | exc x S' =>
    rw [q] at h
    exact h
  | bad =>
    rw [q] at h
    exact h
theorem post.at {a : α} {P : α → Fz → List Addr → Sto → Hp → Prop} (h : post K F μ H (.ok a S) P W) (r : Rl K F μ H S) : P a F μ S H := h F μ H r.ref r
theorem post.atE {a : α} {P : α → Fz → List Addr → Sto → Hp → Prop} (h : post K F μ H (.ok a S) P W) (e : Ext F μ H F' μ' H') (r : Rl K F' μ' H' S) : P a F' μ' S H' := h F' μ' H' e r
theorem post.opt {g : Sto → Option α} {P : α → Fz → List Addr → Sto → Hp → Prop} (h : post K F μ H (opt g S) P W) : ∃ a, g S = some a ∧ post K F μ H (.ok a S) P W := by
  unfold MI.opt at h
  cases q : g S with
  | none => rw [q] at h; exact h.elim
  | some a => rw [q] at h; exact ⟨a, rfl, h⟩
theorem post.ofO {o : Option α} {P : α → Fz → List Addr → Sto → Hp → Prop} (h : post K F μ H (ofO o S) P W) : ∃ a, o = some a ∧ post K F μ H (.ok a S) P W := by
  cases o with
  | none => exact h.elim
  | some a => exact ⟨a, rfl, h⟩
theorem post.chk {b : Bool} {P : Unit → Fz → List Addr → Sto → Hp → Prop} (h : post K F μ H (chk b S) P W) : b = true ∧ post K F μ H (.ok () S) P W := by
  cases b with
  | false => exact h.elim
  | true => exact ⟨rfl, h⟩
/-- a check ahead -/
theorem post.chkB {b : Bool} {f : Unit → M β} {P : β → Fz → List Addr → Sto → Hp → Prop} (h : post K F μ H (M.bind (MI.chk b) f S) P W) : b = true ∧ post K F μ H (f () S) P W := by
  cases b with
  | false => exact h.elim
  | true => exact ⟨rfl, h⟩
theorem post.optB {g : Sto → Option α} {f : α → M β} {P : β → Fz → List Addr → Sto → Hp → Prop} (h : post K F μ H (M.bind (MI.opt g) f S) P W) : ∃ a, g S = some a ∧ post K F μ H (f a S) P W := by
  unfold M.bind MI.opt at h
  cases q : g S with
  | none => rw [q] at h; exact h.elim
  | some a => rw [q] at h; exact ⟨a, rfl, h⟩
theorem post.ofOB {o : Option α} {f : α → M β} {P : β → Fz → List Addr → Sto → Hp → Prop} (h : post K F μ H (M.bind (MI.ofO o) f S) P W) : ∃ a, o = some a ∧ post K F μ H (f a S) P W := by
  cases o with
  | none => exact h.elim
  | some a => exact ⟨a, rfl, h⟩
end

/-! ### weaker readings -/
section
variable {X : Cx}
theorem _root_.L2.PE.imp {e : Expr} {t t' : TE} (h : PE X e t) (i : ∀ σ H Q, t' σ H Q → t σ H Q) : PE X e t' := ⟨fun pins s σ H Q I w => h.run pins s σ H Q I (i σ H Q w)⟩
theorem _root_.L2.PT.imp {e : Expr} {t t' : TT} (h : PT X e t) (i : ∀ σ H Q, t' σ H Q → t σ H Q) : PT X e t' := ⟨fun pins s σ H Q I w => h.run pins s σ H Q I (i σ H Q w)⟩
theorem _root_.L2.PW.imp {e : Expr} {t t' : TT} (h : PW X e t) (i : ∀ σ H Q, t' σ H Q → t σ H Q) : PW X e t' := ⟨fun wh pins s σ H Q I w => h.run wh pins s σ H Q I (i σ H Q w)⟩
theorem _root_.L2.PA.imp {e : List Expr} {t t' : TA} (h : PA X e t) (i : ∀ σ H Q, t' σ H Q → t σ H Q) : PA X e t' := ⟨fun pos pins s σ H Q I w => h.run pos pins s σ H Q I (i σ H Q w)⟩
theorem _root_.L2.PO.imp {e : Option Expr} {t t' : TO} (h : PO X e t) (i : ∀ σ H Q, t' σ H Q → t σ H Q) : PO X e t' := ⟨fun pins s σ H Q I w => h.run pins s σ H Q I (i σ H Q w)⟩
theorem _root_.L2.PS.imp {e : Stmt} {t t' : TS} (h : PS X e t) (i : ∀ D σ H, t' D σ H → t D σ H) : PS X e t' := ⟨fun pins s σ H D I w => h.run pins s σ H D I (i D σ H w)⟩
theorem _root_.L2.PSs.imp {e : List Stmt} {t t' : TS} (h : PSs X e t) (i : ∀ D σ H, t' D σ H → t D σ H) : PSs X e t' := ⟨fun pins s σ H D I w => h.run pins s σ H D I (i D σ H w)⟩
theorem _root_.L2.PI.imp {tg e : Expr} {t t' : TI} (h : PI X tg e t) (i : ∀ σ H R, t' σ H R → t σ H R) : PI X tg e t' := ⟨fun pins s σ H R I w => h.run pins s σ H R I (i σ H R w)⟩
theorem _root_.L2.PG.imp {e : Expr} {t t' : TG} (h : PG X e t) (i : ∀ v σ H Q, t' v σ H Q → t v σ H Q) : PG X e t' := ⟨fun pins s σ H v u Q I r w => h.run pins s σ H v u Q I r (i v σ H Q w)⟩
end

section
variable {K : PySem.W.Frag} {X : Cx} {W : XK} {c : Call}
/-- two in a row -/
theorem rd2 {f g : ME} {h : D → D → M D} {σ : L2.St} {H : Hp} {Q : VK} {r : R2} (w : rdE K W c (eOp h f g) σ H Q)
    (k : ∀ F μ S H2 a b x y, Rl K F μ H2 S → Rep K F μ H2 a x → Rep K F μ H2 b y → post K F μ H2 (h a b S) (fun d F' μ' _ H' => ∀ v, Rep K F' μ' H' d v → Q v H') W → r x y H2 Q) : tOp r (rdE K W c f) (rdE K W c g) σ H Q := by
  obtain ⟨F, μ, S, ρ, r0, s0, p⟩ := w
  refine ⟨F, μ, S, ρ, r0, s0, p.bind.imp fun a F1 μ1 S1 H1 e1 r1 p1 x hx => ?_⟩
  refine ⟨F1, μ1, S1, ρ, r1, s0.ext e1, p1.bind.imp fun b F2 μ2 S2 H2 e2 r2 p2 y hy => ?_⟩
  exact k F2 μ2 S2 H2 a b x y r2 (hx.ext e2) hy p2
theorem rd1 {f : ME} {h : D → M D} {σ : L2.St} {H : Hp} {Q : VK} {r : V → Hp → VK → Prop} (w : rdE K W c (eUn h f) σ H Q)
    (k : ∀ F μ S H2 a x, Rl K F μ H2 S → Rep K F μ H2 a x → post K F μ H2 (h a S) (fun d F' μ' _ H' => ∀ v, Rep K F' μ' H' d v → Q v H') W → r x H2 Q) : tUn r (rdE K W c f) σ H Q := by
  obtain ⟨F, μ, S, ρ, r0, s0, p⟩ := w
  exact ⟨F, μ, S, ρ, r0, s0, p.bind.imp fun a F1 μ1 S1 H1 e1 r1 p1 x hx => k F1 μ1 S1 H1 a x r1 hx p1⟩
/-- a built-in's call -/
theorem rdB {f : MA} {h : List D → M D} {σ : L2.St} {H : Hp} {Q : VK} {r : List V → Hp → VK → Prop} (w : rdE K W c (eB h f) σ H Q)
    (k : ∀ F μ S H2 as xs, Rl K F μ H2 S → Reps K F μ H2 as xs → post K F μ H2 (h as S) (fun d F' μ' _ H' => ∀ v, Rep K F' μ' H' d v → Q v H') W → r xs H2 Q) : tCB r (rdA K W c f) σ H Q := by
  obtain ⟨F, μ, S, ρ, r0, s0, p⟩ := w
  exact ⟨F, μ, S, ρ, r0, s0, p.bind.imp fun a F1 μ1 S1 H1 e1 r1 p1 x hx => k F1 μ1 S1 H1 a x r1 hx p1⟩
end
end MI

/-! MI5: operators. -/
namespace MI
open PySem PySem.Spec PyProof.Rows L2

section
variable {K : PySem.W.Frag} {F : Fz} {μ : List Addr} {H : Hp} {S : Sto} {W : XK} {Q : VK}
/-- what is wanted of a value -/
abbrev pv' (K : PySem.W.Frag) (Q : VK) : D → Fz → List Addr → Sto → Hp → Prop := fun d F' μ' _ H' => ∀ v, Rep K F' μ' H' d v → Q v H'
theorem post.val {d : D} {v : V} (h : post K F μ H (.ok d S) (pv' K Q) W) (r : Rl K F μ H S) (hv : Rep K F μ H d v) : Q v H := h.at r v hv
/-- a new tuple -/
theorem post.tup {ds : List D} {vs : List V} {p : Addr} (h : post K F μ H (.ok (.tup ds) S) (pv' K Q) W) (r : Rl K F μ H S) (hp : H p = none) (hv : Reps K F μ H ds vs) : Q (.ref p) (upd H p (.tup vs)) := by
  obtain ⟨e, r'⟩ := r.laid hp (.tup vs)
  refine h.atE e r' _ ?_
  unfold Rep
  exact ⟨p, vs, rfl, .inl ⟨.inr rfl, upd_same⟩, hv.ext e⟩
/-- a new list that stands still -/
theorem post.lst {ds : List D} {vs : List V} {p : Addr} (h : post K F μ H (.ok (.lst ds) S) (pv' K Q) W) (r : Rl K F μ H S) (hp : H p = none) (hv : Reps K F μ H ds vs) : Q (.ref p) (upd H p (.lst vs)) := by
  obtain ⟨e, r'⟩ := r.laid hp (.lst vs)
  refine h.atE e r' _ ?_
  unfold Rep
  exact ⟨p, vs, rfl, .inr rfl, upd_same, hv.ext e⟩
theorem Rep.tupI {ds : List D} {v : V} (h : Rep K F μ H (.tup ds) v) : ∃ a vs, v = .ref a ∧ TupAt K F H a vs ∧ Reps K F μ H ds vs := by unfold Rep at h; exact h
theorem Rep.lstI {ds : List D} {v : V} (h : Rep K F μ H (.lst ds) v) : ∃ a vs, v = .ref a ∧ F a ∧ H a = some (.lst vs) ∧ Reps K F μ H ds vs := by unfold Rep at h; exact h
theorem Rep.intI {i : Int} {v : V} (h : Rep K F μ H (.int i) v) : v = .int i := by unfold Rep at h; exact h
theorem Rep.blI {i : Bool} {v : V} (h : Rep K F μ H (.bl i) v) : v = .bl i := by unfold Rep at h; exact h
theorem Rep.strI {i : Str} {v : V} (h : Rep K F μ H (.str i) v) : v = .str i := by unfold Rep at h; exact h
theorem Rep.nonI {v : V} (h : Rep K F μ H .non v) : v = .non := by unfold Rep at h; exact h
theorem Rep.locI {n : Nat} {v : V} (h : Rep K F μ H (.loc n) v) : ∃ a, v = .ref a ∧ μ[n]? = some a := by unfold Rep at h; exact h
theorem rep_int (i : Int) : Rep K F μ H (.int i) (.int i) := by unfold Rep; rfl
theorem rep_bl (i : Bool) : Rep K F μ H (.bl i) (.bl i) := by unfold Rep; rfl
theorem rep_str (i : Str) : Rep K F μ H (.str i) (.str i) := by unfold Rep; rfl
theorem rep_non : Rep K F μ H .non .non := by unfold Rep; rfl
/-- a list, by what it holds -/
theorem Rl.list (r : Rl K F μ H S) {d : D} {v : V} {ds : List D} (hv : Rep K F μ H d v) (h : litemsO S d = some ds) : ∃ a vs, v = .ref a ∧ H a = some (.lst vs) ∧ Reps K F μ H ds vs := by
  unfold litemsO at h
  cases d <;> try (simp at h; done)
  · cases h
    obtain ⟨a, vs, e, _, hl, rs⟩ := hv.lstI
    exact ⟨a, vs, e, hl, rs⟩
  · rename_i n
    obtain ⟨a, e, hn⟩ := hv.locI
    have h : (match S[n]? with | some (.lst xs) => some xs | _ => none) = some ds := h
    cases q : S[n]? with
    | none => rw [q] at h; cases h
    | some o =>
      rw [q] at h
      cases o <;> try (cases h; done)
      cases h
      obtain ⟨x, hx, _, vs, ex, rs⟩ := r.obj n _ a q hn
      subst ex
      exact ⟨a, vs, e, hx, rs⟩
/-- a list or tuple -/
theorem Rl.seq (r : Rl K F μ H S) {d : D} {v : V} {ds : List D} (hv : Rep K F μ H d v) (h : itemsO S d = some ds) : ∃ a vs, v = .ref a ∧ ((H a = some (.lst vs) ∧ SqL K H a vs) ∨ SqT K H a vs) ∧ Reps K F μ H ds vs := by
  cases d with
  | tup xs =>
    cases h
    obtain ⟨a, vs, e, ht, rs⟩ := hv.tupI
    exact ⟨a, vs, e, .inr ht.sq, rs⟩
  | lst xs =>
    obtain ⟨a, vs, e, hl, rs⟩ := r.list hv (ds := ds) h
    exact ⟨a, vs, e, .inl ⟨hl, SqL.of hl⟩, rs⟩
  | loc n =>
    obtain ⟨a, vs, e, hl, rs⟩ := r.list hv (ds := ds) h
    exact ⟨a, vs, e, .inl ⟨hl, SqL.of hl⟩, rs⟩
  | _ => cases h
end

section
variable {X : Cx}
/-! ### + - * // % ** -/
abbrev rStrCat : R2 := fun x y H Q => ∃ i j, x = .str i ∧ y = .str j ∧ i.length + j.length ≤ sizeLine ∧ Q (.str (i ++ j)) H
def rAddA (K : PySem.W.Frag) : R2 := fun x y H Q => ((rI0 (fun i j => .int (i + j)) x y H Q ∨ rStrCat x y H Q) ∨ rCatA K x y H Q) ∨ rCat x y H Q
theorem op_addA : OpR X (binaryOp .Add) (rAddA X.K) := OpR.or (OpR.or (OpR.or op_add op_add_str) op_catA) op_cat
theorem op_subA : OpR X (binaryOp .Sub) (rI0 fun i j => .int (i - j)) := op_sub
theorem mulOk_ok {i j : Int} (h : mulOk i j = true) : IntMulOk i j := by
  have h : i.natAbs.log2 + j.natAbs.log2 < 100000000 := of_decide_eq_true h
  have b : ∀ x : Int, Builtin.Int.intBits x ≤ x.natAbs.log2 + 1 := fun x => by
    unfold Builtin.Int.intBits
    split <;> omega
  have h1 := b i
  have h2 := b j
  have e : bitsLine = 134217728 := by decide
  unfold IntMulOk
  intro z
  rw [Bool.and_eq_true] at z
  have z2 := z.2
  unfold Builtin.Int.intTooBig at z2
  have z3 := of_decide_eq_true z2
  rw [e] at z3
  omega
theorem op_mulB : OpR X (binaryOp .Mult) (rI (fun i j => mulOk i j = true) fun i j => .int (i * j)) := opI fun _ _ _ _ _ _ _ hc q => mul_int q (mulOk_ok hc)
theorem op_fdivB : OpR X (binaryOp .FloorDiv) (rI (fun i j => divOk i j = true) fun i j => .int (i.fdiv j)) := opI fun i j _ _ _ _ _ hc q => by
  have hc : (decide (j ≠ 0) && !Builtin.divisionGoesByPylong i j) = true := hc
  rw [Bool.and_eq_true] at hc
  exact floordiv_int (of_decide_eq_true hc.1) q (.inl (by simpa using hc.2))
theorem op_powB : OpR X (binaryOp .Pow) (rI CPow fun i j => .int (i ^ j.toNat)) := op_pow
/-- a tuple once -/
def rRep1 (K : PySem.W.Frag) : R2 := fun x y H Q => ∃ l xs, x = .ref l ∧ y = .int 1 ∧ SqT K H l xs ∧ Q (.ref l) H
theorem tuple_mul1 (l : Addr) (items : Array Value) (n : Nat) (dd : Option Addr) (sl : Array (Option Value)) (u : Tok) :
    Meets (Builtin.«tuple.__mul__» ⟨[.ref l, .int 1 u], []⟩) (fun _ R s => s.heap.get? l = some { cls := .type "tuple", dict := dd, data := .seq items n, slots := sl } ∧ R (.ok (.ret (Value.ref l))) s) :=
  .of_wp fun prog w A R s h => by
    obtain ⟨hp, g, d, tk, os⟩ := s
    obtain ⟨hl, h⟩ := h
    have f1 := AutoSeq1.idx_int
    have c1 : (items.isEmpty || (1 : Int) == 1) = true := by simp
    wp_walk using wpAny_loadPart' hl
    repeat (first
      | (refine wpAny_ite_true (decide_eq_true (by rw [c1])) ?_; wp_walk using wpAny_loadPart' hl)
      | (refine wpAny_ite_true (by rw [c1]) ?_; wp_walk using wpAny_loadPart' hl))
    all_goals exact ⟨_, rfl, h⟩
theorem op_rep1 : OpR X (binaryOp .Mult) (rRep1 X.K) := by
  intro pins s σ H x y v u Q I rx ry h
  obtain ⟨l, xs, rfl, rfl, hT, q⟩ := h
  cases rx
  obtain ⟨t, rfl⟩ := ry
  obtain ⟨its, r, ⟨⟨cls, dd, data, sl⟩, ho, hc, n, hd⟩, hs⟩ := I.tuple hT
  simp only at hc hd
  subst hc hd
  exact wpAny_binaryOp_repeat_ref (T := "tuple") (U := "int") (by decide) ⟨_, ho, rfl⟩ (fun s' => typeIs_int s' 1 t) noFill_tuple_mul F.fills_int_mul F.slot_int_rmul repeat_tuple F.slot_int_index.lookup
    (call_meets F.slot_int_rmul (typeIs_int s 1 t) F.entry_int_rmul (F.args_int_rmul_2 _ _) (int_rmul_tuple 1 t l its.toArray n dd sl)
      ⟨ho, rfl, ⟨_, ho, rfl⟩, call_meets F.slot_tuple_mul ⟨_, ho, rfl⟩ F.entry_tuple_mul (F.args_tuple_mul_2 _ _) (tuple_mul1 l its.toArray n dd sl t) ⟨ho, .ref l, H, I.tok _, rfl, q⟩⟩)
def rMulA (K : PySem.W.Frag) : R2 := fun x y H Q => ((rI (fun i j => mulOk i j = true) (fun i j => .int (i * j)) x y H Q ∨ rRepT K x y H Q) ∨ rRep1 K x y H Q) ∨ rRep x y H Q
theorem op_mulA : OpR X (binaryOp .Mult) (rMulA X.K) := OpR.or (OpR.or (OpR.or op_mulB op_repT) op_rep1) op_rep
end
section
variable {K : PySem.W.Frag} {F : Fz} {μ : List Addr} {H : Hp} {S : Sto} {W : XK} {Q : VK} {a b : D} {x y : V}
theorem fits_le {n : Nat} (h : fits n = true) : n ≤ sizeLine := of_decide_eq_true h
theorem dat_addD (r : Rl K F μ H S) (ha : Rep K F μ H a x) (hb : Rep K F μ H b y) (h : post K F μ H (addD a b S) (pv' K Q) W) : rAddA K x y H Q := by
  unfold addD at h
  split at h
  · exact .inl (.inl (.inl ⟨_, _, ha.intI, hb.intI, h.val r (rep_int _)⟩))
  · obtain ⟨z, h⟩ := h.chkB
    exact .inl (.inl (.inr ⟨_, _, ha.strI, hb.strI, fits_le z, h.val r (rep_str _)⟩))
  · rename_i xs ys
    obtain ⟨z, h⟩ := h.chkB
    obtain ⟨p, vs, e1, t1, r1⟩ := ha.tupI
    obtain ⟨q, us, e2, t2, r2⟩ := hb.tupI
    have h : post K F μ H (.ok (.tup (xs ++ ys)) S) (pv' K Q) W := h
    refine .inl (.inr ⟨p, q, vs, us, e1, e2, t1.sq, t2.sq, by rw [r1.length, r2.length]; exact fits_le z, fun e => ?_, fun _ e => ?_, fun _ _ l hl => ?_⟩)
    · have : xs = [] := List.eq_nil_of_length_eq_zero (by rw [← r1.length, e]; rfl)
      subst this
      rw [← e2]
      exact h.val r hb
    · have : ys = [] := List.eq_nil_of_length_eq_zero (by rw [← r2.length, e]; rfl)
      subst this
      rw [← e1]
      rw [List.append_nil] at h
      exact h.val r ha
    · exact h.tup r hl (r1.append r2)
  · exact h.elim
theorem post.litems {f : List D → M D} {d : D} {P : D → Fz → List Addr → Sto → Hp → Prop} (h : post K F μ H (M.bind (litems d) f S) P W) : ∃ ds, litemsO S d = some ds ∧ post K F μ H (f ds S) P W := h.optB
theorem post.items {α : Type} {f : List D → M α} {d : D} {P : α → Fz → List Addr → Sto → Hp → Prop} (h : post K F μ H (M.bind (MI.items d) f S) P W) : ∃ ds, itemsO S d = some ds ∧ post K F μ H (f ds S) P W := h.optB
theorem bind_assoc' {α β γ : Type} (x : M α) (f : α → M β) (g : β → M γ) : M.bind (M.bind x f) g = M.bind x fun a => M.bind (f a) g := by
  funext S
  unfold M.bind
  cases x S <;> rfl
theorem bind_pure' {α β : Type} (a : α) (f : α → M β) : M.bind (M.pure a) f = f a := rfl
theorem dat_addA (r : Rl K F μ H S) (ha : Rep K F μ H a x) (hb : Rep K F μ H b y) (h : post K F μ H (addA a b S) (pv' K Q) W) : rAddA K x y H Q := by
  unfold addA at h
  cases q : isList a with
  | true =>
    rw [q] at h
    replace h : post K F μ H (M.bind (catL a b) (fun xs => M.pure (.lst xs)) S) (pv' K Q) W := h
    unfold catL at h
    rw [bind_assoc'] at h
    obtain ⟨xs, hx, h⟩ := h.litems
    rw [bind_assoc'] at h
    obtain ⟨ys, hy, h⟩ := h.litems
    rw [bind_assoc'] at h
    obtain ⟨z, h⟩ := h.chkB
    obtain ⟨p, vs, e1, t1, r1⟩ := r.list ha hx
    obtain ⟨q, us, e2, t2, r2⟩ := r.list hb hy
    exact .inr ⟨p, q, vs, us, e1, e2, t1, t2, by rw [r1.length, r2.length]; exact fits_le z, fun l hl => post.lst (ds := xs ++ ys) h r hl (r1.append r2)⟩
  | false =>
    rw [q] at h
    exact dat_addD r ha hb h
theorem dat_subD (r : Rl K F μ H S) (ha : Rep K F μ H a x) (hb : Rep K F μ H b y) (h : post K F μ H (subD a b S) (pv' K Q) W) : rI0 (fun i j => .int (i - j)) x y H Q := by
  unfold subD at h
  split at h
  · exact ⟨_, _, ha.intI, hb.intI, h.val r (rep_int _)⟩
  · exact h.elim
theorem dat_mulA (r : Rl K F μ H S) (ha : Rep K F μ H a x) (hb : Rep K F μ H b y) (h : post K F μ H (mulA a b S) (pv' K Q) W) : rMulA K x y H Q := by
  unfold mulA at h
  cases q : isList a with
  | true =>
    rw [q] at h
    replace h : post K F μ H (M.bind (repL a b) (fun xs => M.pure (.lst xs)) S) (pv' K Q) W := h
    unfold repL at h
    rw [bind_assoc'] at h
    obtain ⟨xs, hx, h⟩ := h.litems
    obtain ⟨p, vs, e1, t1, r1⟩ := r.list ha hx
    cases b with
    | int k =>
      replace h : post K F μ H (M.bind (M.bind (chk (repOk xs.length k)) fun _ => M.pure (List.replicate k.toNat xs).flatten) (fun xs => M.pure (.lst xs)) S) (pv' K Q) W := h
      rw [bind_assoc'] at h
      obtain ⟨z, h⟩ := h.chkB
      have z : -(2 ^ 63) ≤ k ∧ k < 2 ^ 63 ∧ xs.length * k.toNat ≤ sizeLine := of_decide_eq_true z
      exact .inr ⟨p, k, vs, e1, hb.intI, t1, z.1, z.2.1, by rw [r1.length]; exact z.2.2, fun l hl => post.lst (ds := (List.replicate k.toNat xs).flatten) h r hl (r1.rep _)⟩
    | _ => exact h.elim
  | false =>
    rw [q] at h
    replace h : post K F μ H (mulD a b S) (pv' K Q) W := h
    unfold mulD at h
    split at h
    · obtain ⟨z, h⟩ := h.chkB
      exact .inl (.inl (.inl ⟨_, _, ha.intI, hb.intI, z, h.val r (rep_int _)⟩))
    · rename_i xs k
      obtain ⟨p, vs, e1, t1, r1⟩ := ha.tupI
      split at h
      · rename_i e
        subst e
        exact .inl (.inr ⟨p, vs, e1, hb.intI, t1.sq, by rw [← e1]; exact h.val r ha⟩)
      · obtain ⟨z, h⟩ := h.chkB
        have z : 1 ≤ xs.length ∧ xs.length ≤ 1000 ∧ 2 ≤ k ∧ k ≤ 1000 := of_decide_eq_true z
        refine .inl (.inl (.inr ⟨p, k, vs, e1, hb.intI, t1.sq, fun e => ?_, z.2.2.1, z.2.2.2, by rw [r1.length]; exact z.2.1, fun l hl => post.tup (ds := (List.replicate k.toNat xs).flatten) h r hl (r1.rep _)⟩))
        have := r1.length
        rw [e] at this
        simp at this
        omega
    · exact h.elim
theorem dat_fdivD (r : Rl K F μ H S) (ha : Rep K F μ H a x) (hb : Rep K F μ H b y) (h : post K F μ H (fdivD a b S) (pv' K Q) W) : rI (fun i j => divOk i j = true) (fun i j => .int (i.fdiv j)) x y H Q := by
  unfold fdivD at h
  split at h
  · obtain ⟨z, h⟩ := h.chkB
    exact ⟨_, _, ha.intI, hb.intI, z, h.val r (rep_int _)⟩
  · exact h.elim
theorem dat_modD (r : Rl K F μ H S) (ha : Rep K F μ H a x) (hb : Rep K F μ H b y) (h : post K F μ H (modD a b S) (pv' K Q) W) : rI (fun _ j => j ≠ 0) (fun i j => .int (i.fmod j)) x y H Q := by
  unfold modD at h
  split at h
  · obtain ⟨z, h⟩ := h.chkB
    exact ⟨_, _, ha.intI, hb.intI, of_decide_eq_true z, h.val r (rep_int _)⟩
  · exact h.elim
theorem dat_powD (r : Rl K F μ H S) (ha : Rep K F μ H a x) (hb : Rep K F μ H b y) (h : post K F μ H (powD a b S) (pv' K Q) W) : rI CPow (fun i j => .int (i ^ j.toNat)) x y H Q := by
  unfold powD at h
  split at h
  · rename_i i j
    obtain ⟨z, h⟩ := h.chkB
    have z : 0 ≤ j ∧ j ≤ 1000 ∧ i.natAbs < 2 ^ 64 := of_decide_eq_true z
    exact ⟨_, _, ha.intI, hb.intI, ⟨z.1, by omega, z.2.2⟩, h.val r (rep_int _)⟩
  · exact h.elim
theorem dat_negD (r : Rl K F μ H S) (ha : Rep K F μ H a x) (h : post K F μ H (negD a S) (pv' K Q) W) : rU (fun i => .int (-i)) x H Q := by
  unfold negD at h
  split at h
  · exact ⟨_, ha.intI, h.val r (rep_int _)⟩
  · exact h.elim
end
/-- an operator that cOp knows -/
theorem op_ok {X : Cx} {op : Operator} {h : D → D → M D} (e : cOp op = some h) : ∃ r : R2, OpR X (binaryOp op) r ∧ ∀ {F : Fz} {μ : List Addr} {H : Hp} {S : Sto} {W : XK} {Q : VK} {a b : D} {x y : V}, Rl X.K F μ H S → Rep X.K F μ H a x → Rep X.K F μ H b y → post X.K F μ H (h a b S) (pv' X.K Q) W → r x y H Q := by
  cases op <;> cases e
  · exact ⟨_, op_addA, fun r ha hb h => dat_addA r ha hb h⟩
  · exact ⟨_, op_sub, fun r ha hb h => dat_subD r ha hb h⟩
  · exact ⟨_, op_mulA, fun r ha hb h => dat_mulA r ha hb h⟩
  · exact ⟨_, op_modN, fun r ha hb h => dat_modD r ha hb h⟩
  · exact ⟨_, op_pow, fun r ha hb h => dat_powD r ha hb h⟩
  · exact ⟨_, op_fdivB, fun r ha hb h => dat_fdivD r ha hb h⟩
end MI

/-! MI6: comparisons, truth, subscripts. -/
namespace MI
open PySem PySem.Spec PyProof.Rows L2

theorem obind {α β : Type} {o : Option α} {f : α → Option β} {b : β} (h : o.bind f = some b) : ∃ a, o = some a ∧ f a = some b := by
  cases o with
  | none => cases h
  | some a => exact ⟨a, rfl, h⟩
theorem omap {α β : Type} {o : Option α} {f : α → β} {b : β} (h : o.map f = some b) : ∃ a, o = some a ∧ f a = b := by
  cases o with
  | none => cases h
  | some a => exact ⟨a, rfl, Option.some.inj h⟩
section
variable {K : PySem.W.Frag} {F : Fz} {μ : List Addr} {H : Hp} {S : Sto}
mutual
theorem dp_p : ∀ {d : D} {v : V} {p : PyData}, Rep K F μ H d v → pyP d = some p → p.hasDict = false → Dp K H v p
  | .non, _, _, h, e, _ => by unfold pyP at e; cases e; rw [h.nonI]; exact .non
  | .bl _, _, _, h, e, _ => by unfold pyP at e; cases e; rw [h.blI]; exact .bl _
  | .int _, _, _, h, e, _ => by unfold pyP at e; cases e; rw [h.intI]; exact .int _
  | .str _, _, _, h, e, _ => by unfold pyP at e; cases e; rw [h.strI]; exact .str _
  | .tup xs, _, _, h, e, n => by
    unfold pyP at e
    obtain ⟨ps, e1, rfl⟩ := omap e
    obtain ⟨a, vs, rfl, t, r⟩ := h.tupI
    unfold PyData.hasDict at n
    exact .tup t.sq (dp_ps r e1 n)
  | .lst xs, _, _, h, e, n => by
    unfold pyP at e
    obtain ⟨ps, e1, rfl⟩ := omap e
    obtain ⟨a, vs, rfl, _, t, r⟩ := h.lstI
    unfold PyData.hasDict at n
    exact .lst (SqL.of t) (dp_ps r e1 n)
  | .dct kvs, _, _, h, e, n => by
    unfold pyP at e
    obtain ⟨ps, e1, rfl⟩ := omap e
    unfold PyData.hasDict at n
    cases n
  | .loc _, _, _, _, e, _ => by unfold pyP at e; cases e
  | .scr _, _, _, _, e, _ => by unfold pyP at e; cases e
theorem dp_ps : ∀ {ds : List D} {vs : List V} {ps : List PyData}, Reps K F μ H ds vs → pyPs ds = some ps → PyData.hasDictAll ps = false → DpAll K H vs ps
  | [], _, _, h, e, _ => by unfold pyPs at e; cases e; rw [h.nilI]; exact .nil
  | d :: ds, _, _, h, e, n => by
    unfold pyPs at e
    obtain ⟨y, e1, e⟩ := obind e
    obtain ⟨ys, e2, rfl⟩ := omap e
    obtain ⟨v, r, rfl, h1, h2⟩ := h.consI
    unfold PyData.hasDictAll at n
    rw [Bool.or_eq_false_iff] at n
    exact .cons (dp_p h1 e1 n.1) (dp_ps h2 e2 n.2)
end
mutual
theorem dp_of (R : Rl K F μ H S) : ∀ {d : D} {v : V} {p : PyData}, Rep K F μ H d v → toPy S d = some p → p.hasDict = false → Dp K H v p
  | .non, _, _, h, e, _ => by unfold toPy at e; cases e; rw [h.nonI]; exact .non
  | .bl _, _, _, h, e, _ => by unfold toPy at e; cases e; rw [h.blI]; exact .bl _
  | .int _, _, _, h, e, _ => by unfold toPy at e; cases e; rw [h.intI]; exact .int _
  | .str _, _, _, h, e, _ => by unfold toPy at e; cases e; rw [h.strI]; exact .str _
  | .tup xs, _, _, h, e, n => by
    unfold toPy at e
    obtain ⟨ps, e1, rfl⟩ := omap e
    obtain ⟨a, vs, rfl, t, r⟩ := h.tupI
    unfold PyData.hasDict at n
    exact .tup t.sq (dps_of R r e1 n)
  | .lst xs, _, _, h, e, n => by
    unfold toPy at e
    obtain ⟨ps, e1, rfl⟩ := omap e
    obtain ⟨a, vs, rfl, _, t, r⟩ := h.lstI
    unfold PyData.hasDict at n
    exact .lst (SqL.of t) (dps_of R r e1 n)
  | .dct kvs, _, _, h, e, n => by
    unfold toPy at e
    obtain ⟨ps, e1, rfl⟩ := omap e
    unfold PyData.hasDict at n
    cases n
  | .loc m, _, _, h, e, n => by
    unfold toPy at e
    obtain ⟨a, rfl, hn⟩ := h.locI
    cases q : S[m]? with
    | none => rw [q] at e; cases e
    | some o =>
      rw [q] at e
      cases o <;> try (cases e; done)
      obtain ⟨ps, e1, rfl⟩ := omap e
      obtain ⟨x, hx, _, vs, ex, rs⟩ := R.obj m _ a q hn
      subst ex
      unfold PyData.hasDict at n
      exact .lst (SqL.of hx) (dp_ps rs e1 n)
  | .scr _, _, _, _, e, _ => by unfold toPy at e; cases e
theorem dps_of (R : Rl K F μ H S) : ∀ {ds : List D} {vs : List V} {ps : List PyData}, Reps K F μ H ds vs → toPys S ds = some ps → PyData.hasDictAll ps = false → DpAll K H vs ps
  | [], _, _, h, e, _ => by unfold toPys at e; cases e; rw [h.nilI]; exact .nil
  | d :: ds, _, _, h, e, n => by
    unfold toPys at e
    obtain ⟨y, e1, e⟩ := obind e
    obtain ⟨ys, e2, rfl⟩ := omap e
    obtain ⟨v, r, rfl, h1, h2⟩ := h.consI
    unfold PyData.hasDictAll at n
    rw [Bool.or_eq_false_iff] at n
    exact .cons (dp_of R h1 e1 n.1) (dps_of R h2 e2 n.2)
end
section
variable {X : Cx}
/-- == and != beside an empty list, an empty tuple: nothing is looked at -/
def rEqE (K : PySem.W.Frag) (f : Bool → Bool) : R2 := fun x y H Q => ∃ a b xs, x = .ref a ∧ y = .ref b ∧ ((SqL K H a xs ∧ SqL K H b []) ∨ (SqT K H a xs ∧ SqT K H b [])) ∧ Q (.bl (f xs.isEmpty)) H
theorem op_eqE (hu : X.A.units + 64 < cLine) : OpR X (compareOp .Eq) (rEqE X.K id) := by
  intro pins s σ H x y v u Q I rx ry h
  obtain ⟨a, b, xs, rfl, rfl, h, q⟩ := h
  obtain rfl : v = Value.ref a := rx
  obtain rfl : u = Value.ref b := ry
  have hu2 : X.A.units < cLine := by omega
  rcases h with ⟨h1, h2⟩ | ⟨h1, h2⟩
  · obtain ⟨its, rv, ⟨o, n, ho, hc, _, hd⟩, _⟩ := I.list h1
    obtain ⟨its2, rv2, ⟨o2, n2, ho2, hc2, _, hd2⟩, _⟩ := I.list h2
    cases rv2
    cases rv with
    | nil => exact SeqAt.RcAt.lists (e := fun _ => true) ⟨o, ho, hc, n, hd⟩ ⟨o2, ho2, hc2, n2, hd2⟩ rfl hu2 (fun j h1 _ => absurd h1 (by simp)) X.prog X.w _ _ ⟨.bl _, H, I, rfl, q⟩
    | cons r1 r2 => exact SeqAt.RcAt.lists_lengths ⟨o, ho, hc, n, hd⟩ ⟨o2, ho2, hc2, n2, hd2⟩ (by simp) hu2 X.prog X.w _ _ ⟨.bl _, H, I, rfl, q⟩
  · obtain ⟨its, rv, ⟨o, ho, hc, n, hd⟩, _⟩ := I.tuple h1
    obtain ⟨its2, rv2, ⟨o2, ho2, hc2, n2, hd2⟩, _⟩ := I.tuple h2
    cases rv2
    refine SeqAt.RcAt.tuples (items := its.toArray) (items2 := #[]) (e := fun _ => true) ⟨o, ho, hc, n, hd⟩ ⟨o2, ho2, hc2, n2, hd2⟩ hu2 (fun j _ h1 => absurd h1 (by simp)) X.prog X.w _ _ ?_
    cases rv with
    | nil => exact ⟨.bl _, H, I, rfl, q⟩
    | cons r1 r2 => exact ⟨.bl _, H, I, (by simp; rfl), q⟩
theorem op_neE (hu : X.A.units + 64 < cLine) : OpR X (compareOp .NotEq) (rEqE X.K not) := by
  intro pins s σ H x y v u Q I rx ry h
  obtain ⟨a, b, xs, rfl, rfl, h, q⟩ := h
  obtain rfl : v = Value.ref a := rx
  obtain rfl : u = Value.ref b := ry
  have hu2 : X.A.units < cLine := by omega
  rcases h with ⟨h1, h2⟩ | ⟨h1, h2⟩
  · obtain ⟨its, rv, ⟨o, n, ho, hc, _, hd⟩, _⟩ := I.list h1
    obtain ⟨its2, rv2, ⟨o2, n2, ho2, hc2, _, hd2⟩, _⟩ := I.list h2
    cases rv2
    cases rv with
    | nil => exact SeqAt.RcNeAt.lists (e := fun _ => true) ⟨o, ho, hc, n, hd⟩ ⟨o2, ho2, hc2, n2, hd2⟩ rfl hu2 (fun j h1 _ => absurd h1 (by simp)) X.prog X.w _ _ ⟨.bl _, H, I, rfl, q⟩
    | cons r1 r2 => exact SeqAt.RcNeAt.lists_lengths ⟨o, ho, hc, n, hd⟩ ⟨o2, ho2, hc2, n2, hd2⟩ (by simp) hu2 X.prog X.w _ _ ⟨.bl _, H, I, rfl, q⟩
  · obtain ⟨its, rv, ⟨o, ho, hc, n, hd⟩, _⟩ := I.tuple h1
    obtain ⟨its2, rv2, ⟨o2, ho2, hc2, n2, hd2⟩, _⟩ := I.tuple h2
    cases rv2
    refine SeqAt.RcNeAt.tuples (items := its.toArray) (items2 := #[]) (e := fun _ => true) ⟨o, ho, hc, n, hd⟩ ⟨o2, ho2, hc2, n2, hd2⟩ hu2 (fun j _ h1 => absurd h1 (by simp)) X.prog X.w _ _ ?_
    cases rv with
    | nil => exact ⟨.bl _, H, I, rfl, q⟩
    | cons r1 r2 => exact ⟨.bl _, H, I, (by simp; rfl), q⟩
end
/-- beside what is empty -/
theorem emp_len {α β : Type} {xs : List α} {ys : List β} (h : xs.length = ys.length) : xs.isEmpty = ys.isEmpty := by
  cases xs <;> cases ys <;> simp at h ⊢
theorem dat_empty (R : Rl K F μ H S) {a b : D} {x y : V} {k : Bool} {Q : VK} (f : Bool → Bool) (ha : Rep K F μ H a x) (hb : Rep K F μ H b y) (e : emptyO S a b = some k) (q : Q (.bl (f k)) H) : rEqE K f x y H Q := by
  unfold emptyO at e
  split at e
  · obtain ⟨l, _, rfl, _, t, r⟩ := hb.lstI
    obtain ⟨xs, e1, rfl⟩ := omap e
    rw [r.nilI] at t
    unfold litemsO at e1
    split at e1
    · cases e1
      obtain ⟨l2, vs, rfl, _, t2, r2⟩ := ha.lstI
      refine ⟨_, _, vs, rfl, rfl, .inl ⟨SqL.of t2, SqL.of t⟩, ?_⟩
      rw [emp_len r2.length]
      exact q
    · rename_i m
      obtain ⟨a, rfl, hn⟩ := ha.locI
      cases z : S[m]? with
      | none => rw [z] at e1; cases e1
      | some o =>
        rw [z] at e1
        cases o <;> try (cases e1; done)
        cases e1
        obtain ⟨x, hx, _, vs, ex, rs⟩ := R.obj m _ a z hn
        subst ex
        refine ⟨_, _, vs, rfl, rfl, .inl ⟨SqL.of hx, SqL.of t⟩, ?_⟩
        rw [emp_len rs.length]
        exact q
    · cases e1
  · split at e
    · obtain ⟨l, _, rfl, t, r⟩ := hb.tupI
      obtain ⟨l2, vs, rfl, t2, r2⟩ := ha.tupI
      cases e
      rw [r.nilI] at t
      refine ⟨_, _, vs, rfl, rfl, .inr ⟨t2.sq, t.sq⟩, ?_⟩
      rw [emp_len r2.length]
      exact q
    · cases e
  · cases e
/-- == : what the library's rules ask -/
theorem dat_eq (R : Rl K F μ H S) {a b : D} {x y : V} {k : Bool} {Q : VK} (ha : Rep K F μ H a x) (hb : Rep K F μ H b y) (e : eqO S a b = some k) (q : Q (.bl k) H) : rEq x y H Q ∨ (rEqD K x y H Q ∨ rEqE K id x y H Q) := by
  unfold eqO at e
  split at e
  · rename_i i j
    rw [ha.intI, hb.intI]
    refine .inl ⟨rfl, ?_⟩
    rw [dec_int, Option.some.inj e]
    exact q
  · rename_i i j
    rw [ha.strI, hb.strI]
    refine .inl ⟨rfl, ?_⟩
    rw [dec_str, Option.some.inj e]
    exact q
  · split at e
    · rename_i z
      cases e
      exact .inr (.inr (dat_empty R id ha hb z q))
    · obtain ⟨p, e1, e⟩ := obind e
      obtain ⟨p2, e2, e⟩ := obind e
      split at e
      · rename_i z
        rw [Bool.and_eq_true] at z
        have d1 := dp_of R ha e1 (PyData.hasDict_of_canLay _ (SeqAt.canLay_of_shaped z.1))
        have d2 := dp_of R hb e2 (PyData.hasDict_of_canLay _ (SeqAt.canLay_of_shaped z.2))
        refine .inr (.inl ⟨p, p2, d1, d2, z.1, z.2, ?_⟩)
        rw [Option.some.inj e]
        exact q
      · cases e
theorem dat_ne (R : Rl K F μ H S) {a b : D} {x y : V} {k : Bool} {Q : VK} (ha : Rep K F μ H a x) (hb : Rep K F μ H b y) (e : eqO S a b = some k) (q : Q (.bl (!k)) H) : rNe x y H Q ∨ (rNeD K x y H Q ∨ rEqE K not x y H Q) := by
  unfold eqO at e
  split at e
  · rename_i i j
    rw [ha.intI, hb.intI]
    refine .inl ⟨rfl, ?_⟩
    rw [dec_int, Option.some.inj e]
    exact q
  · rename_i i j
    rw [ha.strI, hb.strI]
    refine .inl ⟨rfl, ?_⟩
    rw [dec_str, Option.some.inj e]
    exact q
  · split at e
    · rename_i z
      cases e
      exact .inr (.inr (dat_empty R not ha hb z q))
    · obtain ⟨p, e1, e⟩ := obind e
      obtain ⟨p2, e2, e⟩ := obind e
      split at e
      · rename_i z
        rw [Bool.and_eq_true] at z
        have d1 := dp_of R ha e1 (PyData.hasDict_of_canLay _ (SeqAt.canLay_of_shaped z.1))
        have d2 := dp_of R hb e2 (PyData.hasDict_of_canLay _ (SeqAt.canLay_of_shaped z.2))
        refine .inr (.inl ⟨p, p2, d1, d2, z.1, z.2, ?_⟩)
        rw [Option.some.inj e]
        exact q
      · cases e
/-! ### in -/
theorem flat_of {d : D} {v : V} (h : Rep K F μ H d v) (f : flatD d = true) : flatV v = true := by
  cases d <;> first | (cases f; done) | skip
  · rw [h.nonI]; rfl
  · rw [h.blI]; rfl
  · rw [h.intI]; rfl
  · rw [h.strI]; rfl
theorem flats_of : ∀ {ds : List D} {vs : List V}, Reps K F μ H ds vs → ds.all flatD = true → vs.all flatV = true
  | [], _, h, _ => by rw [h.nilI]; rfl
  | d :: ds, _, h, f => by
    obtain ⟨v, r, rfl, h1, h2⟩ := h.consI
    rw [List.all_cons, Bool.and_eq_true] at f
    rw [List.all_cons, flat_of h1 f.1, flats_of h2 f.2]; rfl
theorem eqF_of {d e : D} {v u : V} (h : Rep K F μ H d v) (g : Rep K F μ H e u) (f : flatD d = true) (f2 : flatD e = true) : eqV v u = eqF d e := by
  cases d <;> first | (cases f; done) | skip
  all_goals (cases e <;> first | (cases f2; done) | skip)
  all_goals (first | rw [h.nonI] | rw [h.blI] | rw [h.intI] | rw [h.strI])
  all_goals (first | rw [g.nonI] | rw [g.blI] | rw [g.intI] | rw [g.strI])
  all_goals rfl
theorem inV_of {d : D} {v : V} (h : Rep K F μ H d v) (f : flatD d = true) : ∀ {ds : List D} {vs : List V}, Reps K F μ H ds vs → ds.all flatD = true → inV v vs = ds.any fun z => eqF z d
  | [], _, g, _ => by rw [g.nilI]; rfl
  | e :: ds, _, g, f2 => by
    obtain ⟨u, r, rfl, h1, h2⟩ := g.consI
    rw [List.all_cons, Bool.and_eq_true] at f2
    have ih := inV_of h f h2 f2.2
    unfold inV at ih ⊢
    rw [List.any_cons, List.any_cons, ih, eqF_of h1 h f2.1 f]
abbrev rInSg : R2 := fun x y H Q => ∃ (c : Nat) (z : Str), x = .str ⟨#[c]⟩ ∧ y = .str z ∧ Q (.bl (decide (c ∈ z.cps.toList))) H
abbrev rNotInSg : R2 := fun x y H Q => ∃ (c : Nat) (z : Str), x = .str ⟨#[c]⟩ ∧ y = .str z ∧ Q (.bl (!decide (c ∈ z.cps.toList))) H
theorem dat_in (R : Rl K F μ H S) {a b : D} {x y : V} {k : Bool} (ha : Rep K F μ H a x) (hb : Rep K F μ H b y) (e : inO S a b = some k) (Q : VK) : (Q (.bl k) H → (rIn K false x y H Q ∨ rInSg x y H Q)) ∧ (Q (.bl (!k)) H → (rIn K true x y H Q ∨ rNotInSg x y H Q)) := by
  unfold inO at e
  split at e
  · rename_i z
    split at e
    · rename_i cs
      split at e
      · rename_i c hc
        have ec : cs = #[c] := by
          have := congrArg List.toArray hc
          simpa using this
        subst ec
        rw [ha.strI, hb.strI]
        refine ⟨fun q => .inr ⟨c, z, rfl, rfl, ?_⟩, fun q => .inr ⟨c, z, rfl, rfl, ?_⟩⟩
        · rw [Option.some.inj e]; exact q
        · rw [Option.some.inj e]; exact q
      · cases e
    · cases e
  · obtain ⟨ys, e1, e⟩ := obind e
    split at e
    · rename_i z
      rw [Bool.and_eq_true] at z
      obtain ⟨p, vs, rfl, hp, rs⟩ := R.seq hb e1
      have hq : SqL K H p vs ∨ SqT K H p vs := hp.elim (fun h => .inl h.2) .inr
      have ei := inV_of ha z.1 rs z.2
      rw [Option.some.inj e] at ei
      exact ⟨fun q => .inl ⟨p, vs, rfl, hq, flat_of ha z.1, flats_of rs z.2, by rw [ei]; exact q⟩, fun q => .inl ⟨p, vs, rfl, hq, flat_of ha z.1, flats_of rs z.2, by rw [ei]; exact q⟩⟩
    · cases e
abbrev rIsN : R2 := fun x y H Q => y = .non ∧ Q (.bl (decide (x = .non))) H
abbrev rNotN : R2 := fun x y H Q => y = .non ∧ Q (.bl (!decide (x = .non))) H
theorem dat_is {a b : D} {x y : V} {k : Bool} (ha : Rep K F μ H a x) (hb : Rep K F μ H b y) (e : isO a b = some k) : y = .non ∧ decide (x = .non) = k := by
  unfold isO at e
  split at e
  · refine ⟨hb.nonI, ?_⟩
    have e := Option.some.inj e
    cases a
    · rw [ha.nonI]; rw [← e]; rfl
    · rw [ha.blI]; rw [← e]; rfl
    · rw [ha.intI]; rw [← e]; rfl
    · rw [ha.strI]; rw [← e]; rfl
    · obtain ⟨_, _, rfl, _⟩ := ha.tupI; rw [← e]; rfl
    · obtain ⟨_, _, rfl, _⟩ := ha.lstI; rw [← e]; rfl
    · unfold Rep at ha; obtain ⟨_, _, rfl, _⟩ := ha; rw [← e]; rfl
    · obtain ⟨_, rfl, _⟩ := ha.locI; rw [← e]; rfl
    · unfold Rep at ha; obtain ⟨_, rfl, _⟩ := ha; rw [← e]; rfl
  · cases e
end
/-- a comparison's rule -/
theorem cmp_ok {X : Cx} (hu : X.A.units + 64 < cLine) (op : CmpOp) : ∃ r : R2, OpR X (compareOp op) r ∧ ∀ {F : Fz} {μ : List Addr} {H : Hp} {S : Sto} {Q : VK} {a b : D} {x y : V} {k : Bool}, Rl X.K F μ H S → Rep X.K F μ H a x → Rep X.K F μ H b y → cmpO op S a b = some k → Q (.bl k) H → r x y H Q := by
  cases op with
  | Eq => exact ⟨_, OpR.or op_eq (OpR.or (op_eqD hu) (op_eqE hu)), fun R ha hb e q => dat_eq R ha hb e q⟩
  | NotEq => exact ⟨_, OpR.or op_ne (OpR.or (op_neD hu) (op_neE hu)), fun R ha hb e q => by
      obtain ⟨k', e1, rfl⟩ := omap e
      exact dat_ne R ha hb e1 q⟩
  | Lt =>
    refine ⟨_, OpR.or op_lt (op_ltT (by omega)), fun R ha hb e q => ?_⟩
    have e := show ltO _ _ = some _ from e
    unfold ltO at e
    split at e
    · refine .inl ⟨_, _, ha.intI, hb.intI, ?_⟩
      dsimp only
      rw [Option.some.inj e]; exact q
    · obtain ⟨ns, e1, e⟩ := obind e
      obtain ⟨ms, e2, rfl⟩ := omap e
      obtain ⟨p, vs, rfl, t1, r1⟩ := ha.tupI
      obtain ⟨p', vs', rfl, t1', r1'⟩ := hb.tupI
      rw [ints_of r1 e1] at t1
      rw [ints_of r1' e2] at t1'
      exact .inr ⟨p, p', ns, ms, rfl, rfl, t1.sq, t1'.sq, q⟩
    · cases e
  | LtE =>
    refine ⟨_, op_le, fun R ha hb e q => ?_⟩
    have e := show leO _ _ = some _ from e
    unfold leO at e
    split at e
    · refine ⟨_, _, ha.intI, hb.intI, ?_⟩
      dsimp only
      rw [Option.some.inj e]; exact q
    · cases e
  | Gt =>
    refine ⟨_, op_gt, fun R ha hb e q => ?_⟩
    unfold cmpO at e
    dsimp only at e
    split at e
    · refine ⟨_, _, ha.intI, hb.intI, ?_⟩
      dsimp only
      rw [Option.some.inj e]; exact q
    · cases e
  | GtE =>
    refine ⟨_, op_ge, fun R ha hb e q => ?_⟩
    unfold cmpO at e
    dsimp only at e
    split at e
    · refine ⟨_, _, ha.intI, hb.intI, ?_⟩
      dsimp only
      rw [Option.some.inj e]; exact q
    · cases e
  | Is => exact ⟨_, op_isN, fun R ha hb e q => by
      obtain ⟨e1, e2⟩ := dat_is ha hb e
      exact ⟨e1, by rw [e2]; exact q⟩⟩
  | IsNot => exact ⟨_, op_notN, fun R ha hb e q => by
      obtain ⟨k', e1, rfl⟩ := omap e
      obtain ⟨e1, e2⟩ := dat_is ha hb e1
      exact ⟨e1, by rw [e2]; exact q⟩⟩
  | In => exact ⟨_, OpR.or op_in_seq op_in_sign, fun R ha hb e q => (dat_in R ha hb e _).1 q⟩
  | NotIn => exact ⟨_, OpR.or op_notIn_seq op_notIn_sign, fun R ha hb e q => by
      obtain ⟨k', e1, rfl⟩ := omap e
      exact (dat_in R ha hb e1 _).2 q⟩
/-! ### truth -/
section
variable {K : PySem.W.Frag} {F : Fz} {μ : List Addr} {H : Hp} {S : Sto}
theorem isEmpty_reps {ds : List D} {vs : List V} (r : Reps K F μ H ds vs) : vs.isEmpty = ds.isEmpty := by
  have := r.length
  cases ds <;> cases vs <;> simp at this ⊢
theorem dat_truth (R : Rl K F μ H S) {a : D} {x : V} {k : Bool} (ha : Rep K F μ H a x) (e : truthO S a = some k) : TruV K x H k := by
  have sq : ∀ {ds : List D}, itemsO S a = some ds → (!ds.isEmpty) = k → TruV K x H k := fun {ds} e1 e2 => by
    obtain ⟨p, vs, rfl, hp, rs⟩ := R.seq ha e1
    have e3 := isEmpty_reps rs
    rcases hp with hp | hp
    · exact .inl ⟨vs, hp.2, by rw [e3, e2]⟩
    · exact .inr (.inl ⟨vs, hp, by rw [e3, e2]⟩)
  cases a with
  | non => rw [ha.nonI]; exact (Option.some.inj e).symm
  | bl b => rw [ha.blI]; exact (Option.some.inj e).symm
  | int i => rw [ha.intI]; exact (Option.some.inj e).symm
  | str z =>
    rw [ha.strI]
    unfold truthO at e
    dsimp only at e
    split at e
    · rename_i h
      exact ⟨h, (Option.some.inj e).symm⟩
    · cases e
  | dct kvs =>
    unfold Rep at ha
    obtain ⟨p, vs, rfl, _, hp, rs⟩ := ha
    refine .inr (.inr ⟨vs, hp, ?_⟩)
    have e : (!kvs.isEmpty) = k := Option.some.inj e
    rw [← e]
    cases kvs with
    | nil => unfold RepK at rs; rw [rs]; rfl
    | cons q r => obtain ⟨q1, q2⟩ := q; unfold RepK at rs; obtain ⟨_, _, rfl, _⟩ := rs; rfl
  | tup xs =>
    have e : (itemsO S (.tup xs)).map (fun xs => !xs.isEmpty) = some k := e
    obtain ⟨ds, e1, e2⟩ := omap e
    exact sq e1 e2
  | lst xs =>
    have e : (itemsO S (.lst xs)).map (fun xs => !xs.isEmpty) = some k := e
    obtain ⟨ds, e1, e2⟩ := omap e
    exact sq e1 e2
  | loc n =>
    have e : (itemsO S (.loc n)).map (fun xs => !xs.isEmpty) = some k := e
    obtain ⟨ds, e1, e2⟩ := omap e
    exact sq e1 e2
  | scr ns =>
    have e : (itemsO S (.scr ns)).map (fun xs => !xs.isEmpty) = some k := e
    obtain ⟨ds, e1, e2⟩ := omap e
    exact sq e1 e2
end
end MI

/-! MI7: rules of the library's level that lacked: t[::-1]. -/
namespace MIR
open PySem PySem.W PySem.Calls PyProof.Rows
section
variable {prog : Program} {w : World} {A : Around} {E : Value → Shared → Prop} {s : Shared}
theorem adjust_back (n : Nat) : Builtin.Slice.sliceAdjust none none (-1) (n : Int) = ((n : Int) - 1, -1) := by
  unfold Builtin.Slice.sliceAdjust
  simp
theorem places_back (n : Nat) : Builtin.Slice.slicePlaces ((n : Int) - 1) (-1) (-1) = n := by
  unfold Builtin.Slice.slicePlaces
  simp
  try split
  all_goals try omega
theorem sliceApplied_back {sl : Addr} {vl vu vs : Value} {n : Nat} {Q : Int × Int × Nat → Shared → Prop} (hs : s.heap.IsSliceOf sl vl vu vs) (pl : IsPart vl none) (pu : IsPart vu none) (ps : IsPart vs (some (-1)))
    (h : Q ((n : Int) - 1, -1, n) s) : wpAny (model prog w) A (Builtin.Slice.sliceApplied (.ref sl) (pure (n : Int))) Q E s := by
  obtain ⟨os, hos, hcs, hds⟩ := id hs
  cases pl
  cases pu
  cases ps with
  | int i t =>
  unfold Builtin.Slice.sliceApplied Builtin.Slice.sliceFields
  refine wpAny_bind (wpAny_bind (wpAny_field hos hds (x := .none) rfl (wpAny_bind (wpAny_field hos hds (x := .none) rfl (wpAny_bind (wpAny_field hos hds (x := .int (-1) t) rfl (wpAny_pure ?_)))))))
  refine wpAny_bind (slicePart_int ?_)
  show wpAny _ _ (if ((-1 : Int) == 0) = true then _ else _) _ _ s
  rw [if_neg (by decide)]
  refine wpAny_bind (slicePart_none (wpAny_bind (slicePart_none (wpAny_bind (wpAny_pure ?_)))))
  show wpAny _ _ (match Builtin.Slice.sliceAdjust none none (-1) (n : Int) with | (lo, hi) => pure (lo, (-1 : Int), Builtin.Slice.slicePlaces lo hi (-1))) _ _ s
  rw [adjust_back n]
  show wpAny _ _ (pure ((n : Int) - 1, (-1 : Int), Builtin.Slice.slicePlaces ((n : Int) - 1) (-1) (-1))) _ _ s
  rw [places_back]
  exact wpAny_pure h
theorem pick_backL : ∀ (xs : List Value) (n : Nat), n ≤ xs.length → (List.range n).filterMap (fun (m : Nat) => xs[xs.length - 1 - m]?) = (xs.drop (xs.length - n)).reverse
  | xs, 0, _ => by simp
  | xs, n + 1, h => by
    rw [List.range_succ, List.filterMap_append, pick_backL xs n (by omega)]
    have e : xs.length - (n + 1) + 1 = xs.length - n := by omega
    have e2 : xs.drop (xs.length - (n + 1)) = xs[xs.length - (n + 1)]'(by omega) :: xs.drop (xs.length - n) := by
      rw [List.drop_eq_getElem_cons (by omega), e]
    rw [e2, List.reverse_cons]
    congr 1
    have e3 : xs.length - 1 - n = xs.length - (n + 1) := by omega
    simp only [List.filterMap_cons, List.filterMap_nil]
    rw [e3, List.getElem?_eq_getElem (by omega)]
theorem pick_back (xs : Array Value) : ((List.range xs.size).filterMap fun (m : Nat) => xs[(((xs.size : Nat) : Int) - 1 + (m : Int) * (-1)).toNat]?).toArray = xs.toList.reverse.toArray := by
  congr 1
  have e : (fun (m : Nat) => xs[(((xs.size : Nat) : Int) - 1 + (m : Int) * (-1)).toNat]?) = fun m => xs.toList[xs.toList.length - 1 - m]? := by
    funext m
    rw [Array.getElem?_toList, Array.length_toList]
    congr 1
    omega
  rw [e]
  have := pick_backL xs.toList xs.toList.length (Nat.le_refl _)
  rw [Array.length_toList] at this ⊢
  rw [this]
  simp
theorem getItem_tuple_back {t sl : Addr} {items : Array Value} {vl vu vs : Value} {Q : Value → Shared → Prop} (ht : IsTup s.heap t items) (hs : s.heap.IsSliceOf sl vl vu vs) (pl : IsPart vl none) (pu : IsPart vu none) (ps : IsPart vs (some (-1)))
    (h : Q (.ref s.heap.objs.size) { s with heap := s.heap.push { cls := .type "tuple", data := .seq items.toList.reverse.toArray } })
    (hsz : items.size ≤ sizeLine) : wpAny (model prog w) A (getItem (.ref t) (.ref sl)) Q E s := by
  have htake : sizeOk (.seq items.toList.reverse.toArray) := by
    show items.toList.reverse.toArray.size ≤ sizeLine
    simpa using hsz
  obtain ⟨os, hos, hcs, hds⟩ := id hs
  have hTs : s.TypeIs (.ref sl) "slice" := ⟨os, hos, hcs⟩
  unfold getItem
  try with_reducible refine wpAny_holding ?_
  first | refine wpAny_bind (wpAny_pure ?_) | skip
  refine wpAny_bind (wpAny_sequenceKey ht.typeIs (by decide) ?_)
  refine wpAny_bind (wpAny_callSpecial?_slot (name := Str.ofString "__getitem__") ht.typeIs PyProof.Rows.slot_tuple_getitem
    (wpAny_call_entry PyProof.Rows.slot_tuple_getitem ht.typeIs entry_tuple_getitem ?_ (args_tuple_getitem _ _)))
  show wpAny _ _ (Builtin.Tuple.tupleItemsOf (.ref t) >>= _) _ _ s
  refine wpAny_bind (tupleItemsOf_ ht ?_)
  refine wpAny_bind (wpAny_typeOf hTs ?_)
  rw [if_pos (by decide)]
  refine wpAny_bind (sliceApplied_back hs pl pu ps ?_)
  have hno : ¬ (((((items.size : Nat) : Int) - 1) == 0 && (-1 : Int) == 1 && items.size == items.size) = true) := by
    intro q
    rw [Bool.and_eq_true, Bool.and_eq_true] at q
    exact absurd q.1.2 (by decide)
  show wpAny _ _ (if ((((items.size : Nat) : Int) - 1) == 0 && (-1 : Int) == 1 && items.size == items.size) = true then _ else _) _ _ s
  rw [if_neg hno, pick_back]
  first
    | exact wpAny_bind (m := Builtin.Tuple.tupleExact _) (wpAny_newObj_type (wpAny_pure ⟨_, rfl, wpAny_pure h⟩) htake)
    | exact wpAny_bind (m := Builtin.Tuple.tupleExact _) (wpAny_newObj_type (wpAny_bind (wpAny_pure (wpAny_pure ⟨_, rfl, wpAny_pure h⟩))) htake)
    | exact wpAny_bind (wpAny_bind (m := Builtin.Tuple.tupleExact _) (wpAny_newObj_type (wpAny_pure (wpAny_pure ⟨_, rfl, wpAny_pure h⟩)) htake))
    | exact wpAny_bind (wpAny_bind (m := Builtin.Tuple.tupleExact _) (wpAny_newObj_type (wpAny_pure ⟨_, rfl, wpAny_pure h⟩) htake))
end
end MIR
namespace MI
open PySem PySem.Spec PyProof.Rows L2
section
variable {X : Cx}
/-- x[::-1] of a list or a tuple -/
def tBack (K : PySem.W.Frag) (te : TE) : TE := fun σ H Q => te σ H fun x H1 => ∃ a xs, x = .ref a ∧ ((SqL K H1 a xs ∧ ∀ p, H1 p = none → Q (.ref p) (upd H1 p (.lst xs.reverse))) ∨ (SqT K H1 a xs ∧ ∀ p, H1 p = none → Q (.ref p) (upd H1 p (.tup xs.reverse))))
theorem pe_back {e : Expr} {te : TE} {k : Nat} {p1 p2 p3 pos : Pos} (he : PE X e te) : PE X (.Subscript e (.Slice none none (some (.UnaryOp .USub (.Constant (.int 1) k p1) p2)) p3) pos) (tBack X.K te) := by
  refine ⟨fun pins s σ H Q I h => ?_⟩
  refine Subscript_ (thn (he.run pins s σ H _ I h) fun v s1 ⟨x, H1, I1, r1, q1⟩ => ?_)
  obtain ⟨a, xs, ex, q⟩ := q1
  subst ex
  cases r1
  have hst : PO X (some (.UnaryOp .USub (.Constant (.int 1) k p1) p2)) (tPart (tUn (rU fun i => .int (-i)) (tC (.int 1)))) := po_some (pe_un un_neg pe_int)
  refine wpAny_Slice (thn (po_none.run pins s1 σ H1 (fun o H2 => o = none ∧ H2 = H1) I1 ⟨rfl, rfl⟩) fun vl s2 ⟨l, H2, I2, pl, el, e2⟩ => ?_)
  subst el e2
  refine thn (po_none.run pins s2 σ H2 (fun o H3 => o = none ∧ H3 = H2) I2 ⟨rfl, rfl⟩) fun vu s3 ⟨u, H3, I3, pu, eu, e3⟩ => ?_
  subst eu e3
  refine thn (hst.run pins s3 σ H3 (fun o H4 => o = some (-1) ∧ H4 = H3) I3 ⟨1, rfl, -1, rfl, rfl, rfl⟩) fun vs s4 ⟨o, H4, I4, ps, eo, e4⟩ => ?_
  subst eo e4
  have I5 : Inv X pins σ H4 { s4 with heap := s4.heap.push { cls := .type "slice", data := .fields #[vl, vu, vs] } } := I4.kept (t' := s4.toks) fun b ob q => Heap.get?_push_of_some _ q
  show wpAny (model X.prog X.w) X.A (subscriptTail e (.Slice none none (some (.UnaryOp .USub (.Constant (.int 1) k p1) p2)) p3) (.ref a) (.ref s4.heap.objs.size)) (EP X pins σ Q) X.xe { s4 with heap := s4.heap.push { cls := .type "slice", data := .fields #[vl, vu, vs] } }
  rcases q with ⟨hx, q⟩ | ⟨hx, q⟩
  · obtain ⟨its, r, ht, hz⟩ := I5.list hx
    have hlen := r.length
    refine tail_any (ops := [.ref a, .ref s4.heap.objs.size]) ht.isList.typeIs (PySem.slot_list_getitem.lookup) ?_ (by with_unfolding_all rfl)
    refine wpAny_getItem_list_slice ht.isList (Heap.IsSliceOf.new _ vl vu vs) pl pu ps (by decide) ?_ (by rw [List.size_toArray]; omega)
    rw [PySem.W.krv_pick]
    refine ⟨.ref _, _, I5.laid (t' := s4.toks) (o := .lst xs.reverse) (fun b ob q => Heap.get?_push_of_some _ q) (Nat.le_refl _) ?_, rfl, q _ (I5.hok.fresh (Nat.le_refl _))⟩
    exact ⟨by rw [List.length_reverse]; exact hz, _, 0, r.reverse, Heap.get?_push_size _ rfl⟩
  · obtain ⟨its, r, ht, hz⟩ := I5.tuple hx
    have hlen := r.length
    refine tail_any (ops := [.ref a, .ref s4.heap.objs.size]) ht.typeIs PyProof.Rows.slot_tuple_getitem.lookup ?_ (by with_unfolding_all rfl)
    refine MIR.getItem_tuple_back ht (Heap.IsSliceOf.new _ vl vu vs) pl pu ps ?_ (by rw [List.size_toArray]; omega)
    refine ⟨.ref _, _, I5.laid (t' := s4.toks) (o := .tup xs.reverse) (fun b ob q => Heap.get?_push_of_some _ q) (Nat.le_refl _) ?_, rfl, q _ (I5.hok.fresh (Nat.le_refl _))⟩
    exact ⟨by rw [List.length_reverse]; exact hz, _, r.reverse, IsTup.new _ _⟩
end
end MI

/-! MI8: subscripts, slices, stores, methods, built-ins: data. -/
namespace MI
open PySem PySem.Spec PyProof.Rows L2
section
variable {K : PySem.W.Frag} {F : Fz} {μ : List Addr} {H : Hp} {S : Sto} {W : XK} {Q : VK} {a b : D} {x y : V}
theorem Reps.at {ds : List D} {vs : List V} {i : Int} {d : D} (r : Reps K F μ H ds vs) (e : atI ds i = some d) : ∃ v, atI vs i = some v ∧ Rep K F μ H d v := by
  unfold atI at e ⊢
  rw [r.length]
  cases q : ixN ds.length i with
  | none => rw [q] at e; cases e
  | some j =>
    rw [q] at e
    exact r.get e
theorem dat_item (r : Rl K F μ H S) (ha : Rep K F μ H a x) (hb : Rep K F μ H b y) (h : post K F μ H (getItem a b S) (pv' K Q) W) : rIx K x y H Q := by
  unfold getItem at h
  obtain ⟨d, e, h2⟩ := h.opt
  clear h
  have sq : (itemsO S a).bind (fun xs => match b with | .int k => atI xs k | _ => none) = some d → rIx K x y H Q := fun e => by
    obtain ⟨xs, e1, e2⟩ := obind e
    cases b with
    | int k =>
      obtain ⟨p, vs, rfl, hp, rs⟩ := r.seq ha e1
      obtain ⟨v, ev, rv⟩ := rs.at e2
      rcases hp with hp | hp
      · exact .inl ⟨p, vs, k, v, rfl, hb.intI, hp.2, ev, h2.val r rv⟩
      · exact .inr (.inl ⟨p, vs, k, v, rfl, hb.intI, hp, ev, h2.val r rv⟩)
    | _ => cases e2
  cases a with
  | str z =>
    unfold itemO at e
    dsimp only at e
    split at e
    · rename_i k
      split at e
      · rename_i hz
        obtain ⟨c, e1, e2⟩ := omap e
        exact .inr (.inr ⟨z, k, c, ha.strI, hb.intI, hz, e1, h2.val r (e2 ▸ rep_str _)⟩)
      · cases e
    · cases e
  | _ => exact sq e
def rSlAll (K : PySem.W.Frag) : V → Option Int → Option Int → Hp → VK → Prop := fun x lo hi H Q => (rSlL K x lo hi H Q ∨ rSlA K x lo hi H Q) ∨ rSlS x lo hi H Q
theorem sl_all {X : Cx} : L2.SlR X (rSlAll X.K) := L2.SlR.or (L2.SlR.or sl_list sl_tupA) sl_str
theorem cut_map {α β : Type} (f : α → β) (xs : List α) (lo hi : Option Int) : cut (xs.map f) lo hi = (cut xs lo hi).map f := by
  unfold cut
  rw [List.length_map, ← List.map_drop, ← List.map_take]
theorem cut_whole {α : Type} (xs : List α) (lo hi : Option Int) (h : HT.sIx xs.length 0 lo = 0 ∧ HT.sIx xs.length xs.length hi = xs.length) : cut xs lo hi = xs := by
  unfold cut
  rw [h.1, h.2, List.drop_zero, Nat.sub_zero, List.take_length]
theorem dat_slice {lo hi : Option Int} (r : Rl K F μ H S) (ha : Rep K F μ H a x) (h : post K F μ H (slice a lo hi S) (pv' K Q) W) : rSlAll K x lo hi H Q := by
  unfold slice at h
  obtain ⟨d, e, h⟩ := h.opt
  have sq : (litemsO S a).map (fun xs => D.lst (cut xs lo hi)) = some d → rSlAll K x lo hi H Q := fun e => by
    obtain ⟨xs, e1, e2⟩ := omap e
    subst e2
    obtain ⟨p, vs, rfl, hp, rs⟩ := r.list ha e1
    exact .inl (.inl ⟨p, vs, rfl, SqL.of hp, fun q hq => h.lst r hq (rs.cut lo hi)⟩)
  cases a with
  | tup xs =>
    have e := Option.some.inj e
    subst e
    obtain ⟨p, vs, rfl, hp, rs⟩ := ha.tupI
    refine .inl (.inr ⟨p, vs, rfl, hp.sq, fun w => ?_, fun _ q hq => h.tup r hq (rs.cut lo hi)⟩)
    rw [rs.length] at w
    rw [cut_whole xs lo hi w] at h
    exact h.val r ha
  | scr ns =>
    have e := Option.some.inj e
    subst e
    unfold Rep at ha
    obtain ⟨p, rfl, hp⟩ := ha
    have rs : Reps K F μ H (ns.map D.int) (ns.map V.int) := reps_ints ns
    refine .inl (.inl ⟨p, _, rfl, hp.sq, fun q hq => ?_⟩)
    have := rs.cut lo hi
    rw [cut_map] at this
    exact h.lst r hq this
  | str z =>
    unfold sliceO at e
    dsimp only at e
    split at e
    · rename_i hz
      have e := Option.some.inj e
      subst e
      exact .inr ⟨z, ha.strI, hz, h.val r (rep_str _)⟩
    · cases e
  | _ => exact sq e
theorem dat_back (r : Rl K F μ H S) (ha : Rep K F μ H a x) (h : post K F μ H (back a S) (pv' K Q) W) :
    ∃ p xs, x = .ref p ∧ ((SqL K H p xs ∧ ∀ q, H q = none → Q (.ref q) (upd H q (.lst xs.reverse))) ∨ (SqT K H p xs ∧ ∀ q, H q = none → Q (.ref q) (upd H q (.tup xs.reverse)))) := by
  unfold back at h
  obtain ⟨d, e, h⟩ := h.opt
  have sq : (litemsO S a).map (fun xs => D.lst xs.reverse) = some d → ∃ p xs, x = .ref p ∧ ((SqL K H p xs ∧ ∀ q, H q = none → Q (.ref q) (upd H q (.lst xs.reverse))) ∨ (SqT K H p xs ∧ ∀ q, H q = none → Q (.ref q) (upd H q (.tup xs.reverse)))) := fun e => by
    obtain ⟨xs, e1, e2⟩ := omap e
    subst e2
    obtain ⟨p, vs, rfl, hp, rs⟩ := r.list ha e1
    exact ⟨p, vs, rfl, .inl ⟨SqL.of hp, fun q hq => h.lst r hq rs.reverse⟩⟩
  cases a with
  | tup xs =>
    have e := Option.some.inj e
    subst e
    obtain ⟨p, vs, rfl, hp, rs⟩ := ha.tupI
    exact ⟨p, vs, rfl, .inr ⟨hp.sq, fun q hq => h.tup r hq rs.reverse⟩⟩
  | _ => exact sq e
/-! ### what changes a list -/
theorem post.mutL {α : Type} {f : Nat × List D → M α} {P : α → Fz → List Addr → Sto → Hp → Prop} (r : Rl K F μ H S) (ha : Rep K F μ H a x) (h : post K F μ H (M.bind (MI.mutL a) f S) P W) :
    ∃ n xs p vs, a = .loc n ∧ x = .ref p ∧ μ[n]? = some p ∧ H p = some (.lst vs) ∧ S[n]? = some (.lst xs) ∧ pureL xs = true ∧ Reps K F μ H xs vs ∧ post K F μ H (f (n, xs) S) P W := by
  unfold MI.mutL at h
  obtain ⟨⟨n, xs⟩, e, h⟩ := h.optB
  unfold mutO at e
  cases a with
  | loc m =>
    dsimp only at e
    split at e
    · rename_i ys q
      obtain ⟨rfl, rfl⟩ := Prod.mk.inj (Option.some.inj e)
      obtain ⟨p, rfl, hp⟩ := ha.locI
      obtain ⟨o, ho, hpu, vs, rfl, rs⟩ := r.obj m _ p q hp
      exact ⟨m, ys, p, vs, rfl, rfl, hp, ho, q, hpu, rs, h⟩
    · cases e
  | _ => cases e
theorem post.putL {α : Type} {f : Unit → M α} {P : α → Fz → List Addr → Sto → Hp → Prop} {n : Nat} {p : Addr} {xs : List D} {vs : List V} (r : Rl K F μ H S) (hn : μ[n]? = some p) (rs : Reps K F μ H xs vs) (h : post K F μ H (M.bind (MI.putL n xs) f S) P W) :
    Ext F μ H F μ (upd H p (.lst vs)) ∧ Rl K F μ (upd H p (.lst vs)) (S.set n (.lst xs)) ∧ post K F μ (upd H p (.lst vs)) (f () (S.set n (.lst xs))) P W := by
  unfold M.bind MI.putL at h
  cases q : pureL xs with
  | false => rw [q] at h; exact h.elim
  | true =>
    rw [q] at h
    obtain ⟨e, r'⟩ := r.set (o := .lst xs) (x := .lst vs) hn ⟨q, vs, rfl, rs⟩
    exact ⟨e, r', post.ext h e⟩
theorem dat_set {P : Unit → Fz → List Addr → Sto → Hp → Prop} {i v : D} {iv vv : V} {Q' : Hp → Prop} (r : Rl K F μ H S) (ha : Rep K F μ H a x) (hi : Rep K F μ H i iv) (hv : Rep K F μ H v vv) (h : post K F μ H (setItem a i v S) P W)
    (k : ∀ p vs S' , Ext F μ H F μ (upd H p (.lst vs)) → Rl K F μ (upd H p (.lst vs)) S' → P () F μ S' (upd H p (.lst vs)) → Q' (upd H p (.lst vs))) : rSetL x iv vv H Q' := by
  unfold setItem at h
  obtain ⟨n, xs, p, vs, rfl, rfl, hp, ho, hS, hpu, rs, h⟩ := h.mutL r ha
  cases i with
  | int j =>
    obtain ⟨m, e, h⟩ := h.ofOB
    have h2 : post K F μ H (M.bind (MI.putL n (xs.set m v)) (fun u => M.pure u) S) P W := by
      have e3 : M.bind (MI.putL n (xs.set m v)) (fun u => M.pure u) S = MI.putL n (xs.set m v) S := by
        unfold M.bind
        cases MI.putL n (xs.set m v) S <;> rfl
      rw [e3]; exact h
    obtain ⟨e1, r1, h⟩ := h2.putL r hp (Reps.set hv m rs)
    refine ⟨p, vs, j, m, rfl, hi.intI, ho, by rw [rs.length]; exact e, ?_⟩
    exact k p _ _ e1 r1 (h.at r1)
  | _ => exact h.elim
theorem dat_app (r : Rl K F μ H S) (ha : Rep K F μ H a x) (hb : Rep K F μ H b y) (h : post K F μ H (appD a b S) (pv' K Q) W) : rAppend x [y] H Q := by
  unfold appD at h
  obtain ⟨n, xs, p, vs, rfl, rfl, hp, ho, hS, hpu, rs, h⟩ := h.mutL r ha
  obtain ⟨z, h⟩ := h.chkB
  obtain ⟨e1, r1, h⟩ := h.putL r hp (rs.append (Reps.cons hb Reps.nil))
  exact ⟨p, vs, y, rfl, rfl, ho, by rw [rs.length]; exact of_decide_eq_true z, h.val r1 rep_non⟩
theorem atI_of {α : Type} {xs : List α} {i : Int} {j : Nat} (h : ixN xs.length i = some j) : xs[j]? = atI xs i := by
  unfold atI
  rw [h]; rfl
theorem dat_pop (r : Rl K F μ H S) (ha : Rep K F μ H a x) (hb : Rep K F μ H b y) (h : post K F μ H (popD a b S) (pv' K Q) W) : rPopAt x [y] H Q := by
  unfold popD at h
  obtain ⟨n, xs, p, vs, rfl, rfl, hp, ho, hS, hpu, rs, h⟩ := h.mutL r ha
  cases b with
  | int i =>
    obtain ⟨z, h⟩ := h.chkB
    have z : -(2 ^ 62) ≤ i ∧ i < 2 ^ 62 := of_decide_eq_true z
    obtain ⟨j, ej, h⟩ := h.ofOB
    obtain ⟨d, ed, h⟩ := h.ofOB
    obtain ⟨v, ev, rv⟩ := rs.get ed
    obtain ⟨e1, r1, h⟩ := h.putL r hp (rs.eraseIdx j)
    obtain ⟨h1, h2, h3, h4⟩ := ixN_seq ej
    exact ⟨p, vs, i, j, v, rfl, by rw [hb.intI], ho, by omega, by omega, by rw [rs.length]; exact h1, ev, h.val r1 (rv.ext e1)⟩
  | _ => exact h.elim
end
end MI

/-! MI9: built-ins. -/
namespace MIR
open PySem PySem.Spec PyProof.Rows L2
section
variable {prog : Program} {w : World} {A : Around} {E : Value → Shared → Prop} {s : Shared} {l : Addr} {xs : Array (Int × Tok)}
theorem iter_intTup {Q : Value → Shared → Prop} (hl : s.heap.IsTuple l (intItems xs))
    (h : ∀ s₂ : Shared, s₂ = { s with heap := s.heap.push { cls := .type "tuple_iterator", data := .fields #[.ref l, .int 0 0] } } →
      (s₂.heap.IsTupleIter s.heap.objs.size l 0 ∧ s₂.heap.IsTuple l (intItems xs)) → (∀ b ∈ [s.heap.objs.size, l], b < s₂.heap.objs.size) → l ≠ s.heap.objs.size → Q (.ref s.heap.objs.size) s₂) :
    wpAny (model prog w) A (pyIter (.ref l)) Q E s := by
  have hlt : l < s.heap.objs.size := by obtain ⟨_, e, _⟩ := hl; exact Heap.lt_size e
  refine wpAny_pyIter_tuple hl (h _ rfl ⟨⟨_, Heap.get?_push_size _ rfl, rfl, rfl⟩, hl.push _⟩ (fun b hb => ?_) (Nat.ne_of_lt hlt))
  show b < (s.heap.push _).objs.size
  rw [Heap.size_push]
  rcases List.mem_cons.mp hb with rfl | hb
  · exact Nat.lt_succ_self _
  · rcases List.mem_cons.mp hb with rfl | hb
    · exact Nat.lt_succ_of_lt hlt
    · cases hb
theorem old_keptT {h' : Heap} (hk : ∀ b o, b ∉ [s.heap.objs.size] → (s.heap.push { cls := .type "tuple_iterator", data := .fields #[.ref l, .int 0 0] }).get? b = some o → h'.get? b = some o) :
    ∀ b o, s.heap.get? b = some o → h'.get? b = some o := fun b o e => by
  refine hk b o (fun hm => ?_) (Heap.get?_push_of_some _ e)
  rcases List.mem_cons.mp hm with e1 | hm
  · exact absurd (e1 ▸ Heap.lt_size e) (Nat.lt_irrefl _)
  · cases hm
theorem max_intTup {Q : Value → Shared → Prop} (hh : A.handled = none) (hl : s.heap.IsTuple l (intItems xs)) (hne : 0 < xs.size)
    (h : ∀ v h' tk, (intItems xs)[argBest (fun i j => decide (numAt xs i > numAt xs j)) (xs.size - 1)]? = some v → (∀ b o, s.heap.get? b = some o → h'.get? b = some o) → Q v { s with heap := h', toks := tk }) :
    wpAny (model prog w) A (call (.builtin "max") [.ref l]) Q E s := by
  refine call_max_walk (iter_intTup hl fun s₂ e st hfp hlI => ?_)
  subst e
  refine ⟨_, _, _, _, _, _, _, rfl, Walks.tuple (A := A.in1) hh _ l hlI (intItems xs), st, hfp, by simpa [intItems] using hne, CmpOf.ints_gt (numAt xs) (fun _ _ => intItems_at), fun v h' tk hP hk => ?_⟩
  exact h v h' tk (by simpa [intItems] using hP) (old_keptT hk)
theorem min_intTup {Q : Value → Shared → Prop} (hh : A.handled = none) (hl : s.heap.IsTuple l (intItems xs)) (hne : 0 < xs.size)
    (h : ∀ v h' tk, (intItems xs)[argBest (fun i j => decide (numAt xs i < numAt xs j)) (xs.size - 1)]? = some v → (∀ b o, s.heap.get? b = some o → h'.get? b = some o) → Q v { s with heap := h', toks := tk }) :
    wpAny (model prog w) A (call (.builtin "min") [.ref l]) Q E s := by
  refine call_min_walk (iter_intTup hl fun s₂ e st hfp hlI => ?_)
  subst e
  refine ⟨_, _, _, _, _, _, _, rfl, Walks.tuple (A := A.in1) hh _ l hlI (intItems xs), st, hfp, by simpa [intItems] using hne, CmpOf.ints_lt (numAt xs) (fun _ _ => intItems_at), fun v h' tk hP hk => ?_⟩
  exact h v h' tk (by simpa [intItems] using hP) (old_keptT hk)
end
section
variable {prog : Program} {w : World} {A : Around} {E : Value → Shared → Prop} {s : Shared} {l : Addr} {its : List Value} {ns : List Int} {Q : Value → Shared → Prop}
theorem max_rawT (hh : A.handled = none) (hl : s.heap.IsTuple l its.toArray) (hi : IntsAre its ns) (hne : 0 < ns.length)
    (h : ∀ h' tk M t', (∀ b o, s.heap.get? b = some o → h'.get? b = some o) → M ∈ ns → (∀ a, a ∈ ns → a ≤ M) → Q (.int M t') { s with heap := h', toks := tk }) : wpAny (model prog w) A (call (.builtin "max") [.ref l]) Q E s := by
  obtain ⟨xs, e⟩ := hi.allInts.items
  have hn : numsOf (intItems xs).toList = ns := by rw [← e]; exact hi.numsOf
  rw [nums_intItems] at hn
  subst hn
  rw [e] at hl
  have hsz : 0 < xs.size := by simpa using hne
  refine max_intTup hh hl hsz fun v h' tk hv hk => ?_
  obtain ⟨t, rfl⟩ := intItems_at hv
  obtain ⟨h1, h2⟩ := argBest_gt (numAt xs) (xs.size - 1)
  refine h h' tk _ t hk ?_ fun a ha => ?_
  · rw [numAt_eq]; exact PySem.getD_mem (by rw [List.length_map, Array.length_toList]; omega)
  · obtain ⟨j, hj, rfl⟩ := mem_getD ha
    rw [List.length_map, Array.length_toList] at hj
    rw [← numAt_eq]; exact h2 j (by omega)
theorem min_rawT (hh : A.handled = none) (hl : s.heap.IsTuple l its.toArray) (hi : IntsAre its ns) (hne : 0 < ns.length)
    (h : ∀ h' tk M t', (∀ b o, s.heap.get? b = some o → h'.get? b = some o) → M ∈ ns → (∀ a, a ∈ ns → M ≤ a) → Q (.int M t') { s with heap := h', toks := tk }) : wpAny (model prog w) A (call (.builtin "min") [.ref l]) Q E s := by
  obtain ⟨xs, e⟩ := hi.allInts.items
  have hn : numsOf (intItems xs).toList = ns := by rw [← e]; exact hi.numsOf
  rw [nums_intItems] at hn
  subst hn
  rw [e] at hl
  have hsz : 0 < xs.size := by simpa using hne
  refine min_intTup hh hl hsz fun v h' tk hv hk => ?_
  obtain ⟨t, rfl⟩ := intItems_at hv
  obtain ⟨h1, h2⟩ := argBest_lt (numAt xs) (xs.size - 1)
  refine h h' tk _ t hk ?_ fun a ha => ?_
  · rw [numAt_eq]; exact PySem.getD_mem (by rw [List.length_map, Array.length_toList]; omega)
  · obtain ⟨j, hj, rfl⟩ := mem_getD ha
    rw [List.length_map, Array.length_toList] at hj
    rw [← numAt_eq]; exact h2 j (by omega)
end
def rMaxT (K : PySem.W.Frag) : List V → Hp → VK → Prop := fun vs H Q => ∃ (a : Addr) (ns : List Int), vs = [V.ref a] ∧ SqT K H a (ns.map V.int) ∧ 0 < ns.length ∧ ∀ m, m ∈ ns → (∀ y, y ∈ ns → y ≤ m) → Q (.int m) H
def rMinT (K : PySem.W.Frag) : List V → Hp → VK → Prop := fun vs H Q => ∃ (a : Addr) (ns : List Int), vs = [V.ref a] ∧ SqT K H a (ns.map V.int) ∧ 0 < ns.length ∧ ∀ m, m ∈ ns → (∀ y, y ∈ ns → m ≤ y) → Q (.int m) H
theorem cr_maxT {X : Cx} (hc : X.calm = true) : CallR X (.builtin "max") (rMaxT X.K) := by
  intro pins s σ H vs us Q I r h
  obtain ⟨a, ns, rfl, hs, hne, q⟩ := h
  obtain ⟨its, rv, hl, _⟩ := I.tuple hs
  rw [Vals.ref1 r]
  exact max_rawT (I.ok.hd hc) hl rv.ints hne fun h' tk m t' hk h1 h2 => ⟨.int _, H, I.kept hk, ⟨_, rfl⟩, q m h1 h2⟩
theorem cr_minT {X : Cx} (hc : X.calm = true) : CallR X (.builtin "min") (rMinT X.K) := by
  intro pins s σ H vs us Q I r h
  obtain ⟨a, ns, rfl, hs, hne, q⟩ := h
  obtain ⟨its, rv, hl, _⟩ := I.tuple hs
  rw [Vals.ref1 r]
  exact min_rawT (I.ok.hd hc) hl rv.ints hne fun h' tk m t' hk h1 h2 => ⟨.int _, H, I.kept hk, ⟨_, rfl⟩, q m h1 h2⟩
end MIR
namespace MI
open PySem PySem.Spec PyProof.Rows L2
section
variable {X : Cx}
def rReprD (K : PySem.W.Frag) : List V → Hp → VK → Prop := fun xs H Q => ∃ a d, xs = [.ref a] ∧ Dp K H (.ref a) d ∧ d.showable = true ∧ d.hasDict = false ∧ d.depth ≤ 64 ∧ d.shown.length ≤ sizeLine ∧ Q (.str d.shown) H
theorem call_reprD (hg : X.A.guards = some []) (hu : X.A.units + 65 < cLine) : CallR X (.builtin "repr") (rReprD X.K) := by
  intro pins s σ H xs us Q I r h
  obtain ⟨a, d, rfl, hd, hs, hn, hp, hz, q⟩ := h
  rw [Vals.ref1 r]
  obtain ⟨as, rr⟩ := Dp.reads I d (.ref a) (.ref a) hd rfl
  exact repr_of_reads' rr hs (fun e => by rw [hn] at e; cases e) hg (by omega) (fun _ _ e => e) (fun h' u tk hk => ⟨.str d.shown, H, I.kept hk, ⟨_, rfl⟩, q⟩) hz
abbrev rRepr (K : PySem.W.Frag) : List V → Hp → VK → Prop := fun xs H Q => rReprD K xs H Q ∨ ∃ i, xs = [.int i] ∧ i.natAbs.log2 < 1920 ∧ Q (.str (toString i)) H
theorem call_repr (hg : X.A.guards = some []) (hu : X.A.units + 65 < cLine) : CallR X (.builtin "repr") (rRepr X.K) := CallR.or (call_reprD hg hu) SkE.call_repr_int
/-- a rule for a built-in, by data -/
structure BOk (X : Cx) (x : Str) (h : List D → M D) : Prop where
  ex : ∃ r : List V → Hp → VK → Prop, ((∃ id, bootBuiltins x = some (.builtin id) ∧ CallR X (.builtin id) r) ∨ (∃ T, bootBuiltins x = some (.type T) ∧ CallR X (.type T) r)) ∧
    ∀ {F : Fz} {μ : List Addr} {H : Hp} {S : Sto} {W : XK} {Q : VK} {as : List D} {vs : List V}, Rl X.K F μ H S → Reps X.K F μ H as vs → post X.K F μ H (h as S) (pv' X.K Q) W → r vs H Q
end
section
variable {K : PySem.W.Frag} {F : Fz} {μ : List Addr} {H : Hp} {S : Sto} {W : XK} {Q : VK} {as : List D} {vs : List V}
theorem Reps.one {a : D} (h : Reps K F μ H [a] vs) : ∃ v, vs = [v] ∧ Rep K F μ H a v := by
  obtain ⟨v, r, rfl, h1, h2⟩ := h.consI
  rw [h2.nilI]
  exact ⟨v, rfl, h1⟩
theorem Reps.two {a b : D} (h : Reps K F μ H [a, b] vs) : ∃ v u, vs = [v, u] ∧ Rep K F μ H a v ∧ Rep K F μ H b u := by
  obtain ⟨v, r, rfl, h1, h2⟩ := h.consI
  obtain ⟨u, rfl, h3⟩ := h2.one
  exact ⟨v, u, rfl, h1, h3⟩
theorem post.b1 {h : Sto → D → Option D} (rs : Reps K F μ H as vs) (p : post K F μ H (b1 h as S) (pv' K Q) W) : ∃ a v d, as = [a] ∧ vs = [v] ∧ Rep K F μ H a v ∧ h S a = some d ∧ post K F μ H (.ok d S) (pv' K Q) W := by
  unfold MI.b1 at p
  split at p
  · rename_i x
    obtain ⟨v, rfl, hv⟩ := rs.one
    obtain ⟨d, e, p⟩ := p.opt
    exact ⟨x, v, d, rfl, rfl, hv, e, p⟩
  · exact p.elim
theorem bls_list {ns : List Bool} {ds : List D} (r : Reps K F μ H ds vs) (e : blsO ds = some ns) : vs = ns.map V.bl := bls_of r e
end
section
variable {X : Cx}
theorem b_len : BOk X "len" (b1 lenO) := ⟨_, .inl ⟨"len", by decide +kernel, call_len⟩, fun {F μ H S W Q as vs} R rs p => by
  obtain ⟨a, v, d, rfl, rfl, hv, e, p⟩ := p.b1 rs
  have sq : (itemsO S a).map (fun xs => D.int xs.length) = some d → ∃ x n, [v] = [x] ∧ LenV X.K x H n ∧ Q (.int n) H := fun e => by
    obtain ⟨xs, e1, rfl⟩ := omap e
    obtain ⟨q, us, rfl, hp, r2⟩ := R.seq hv e1
    refine ⟨.ref q, us.length, rfl, ?_, by rw [r2.length]; exact p.val R (rep_int _)⟩
    rcases hp with hp | hp
    · exact .inl ⟨us, hp.2, rfl⟩
    · exact .inr ⟨us, hp, rfl⟩
  cases a with
  | str z =>
    unfold lenO at e
    dsimp only at e
    split at e
    · rename_i hz
      cases e
      exact ⟨.str z, z.length, by rw [hv.strI], ⟨hz, rfl⟩, p.val R (rep_int _)⟩
    · cases e
  | _ => exact sq e⟩
theorem b_all (hc : X.calm = true) : BOk X "all" (b1 allO) := ⟨_, .inl ⟨"all", by decide +kernel, cr_all hc⟩, fun R rs p => by
  obtain ⟨a, v, d, rfl, rfl, hv, e, p⟩ := p.b1 rs
  obtain ⟨xs, e1, e⟩ := obind e
  obtain ⟨bs, e2, rfl⟩ := omap e
  obtain ⟨q, us, rfl, hp, r2⟩ := R.list hv e1
  exact ⟨q, bs, rfl, by rw [← bls_of r2 e2]; exact SqL.of hp, p.val R (rep_bl _)⟩⟩
theorem b_any (hc : X.calm = true) : BOk X "any" (b1 anyO) := ⟨_, .inl ⟨"any", by decide +kernel, cr_any hc⟩, fun R rs p => by
  obtain ⟨a, v, d, rfl, rfl, hv, e, p⟩ := p.b1 rs
  obtain ⟨xs, e1, e⟩ := obind e
  obtain ⟨bs, e2, rfl⟩ := omap e
  obtain ⟨q, us, rfl, hp, r2⟩ := R.list hv e1
  exact ⟨q, bs, rfl, by rw [← bls_of r2 e2]; exact SqL.of hp, p.val R (rep_bl _)⟩⟩
theorem b_sum (hc : X.calm = true) : BOk X "sum" (b1 sumO) := ⟨_, .inl ⟨"sum", by decide +kernel, cr_sum hc⟩, fun R rs p => by
  obtain ⟨a, v, d, rfl, rfl, hv, e, p⟩ := p.b1 rs
  obtain ⟨xs, e1, e⟩ := obind e
  obtain ⟨bs, e2, rfl⟩ := omap e
  obtain ⟨q, us, rfl, hp, r2⟩ := R.list hv e1
  exact ⟨q, bs, rfl, by rw [← ints_of r2 e2]; exact SqL.of hp, p.val R (rep_int _)⟩⟩
theorem b_abs : BOk X "abs" (b1 absO) := ⟨_, .inl ⟨"abs", by decide +kernel, call_abs⟩, fun R rs p => by
  obtain ⟨a, v, d, rfl, rfl, hv, e, p⟩ := p.b1 rs
  cases a <;> try (cases e; done)
  rename_i i
  have e := Option.some.inj e
  subst e
  exact ⟨i, by rw [hv.intI], p.val R (rep_int _)⟩⟩
theorem b_int : BOk X "int" (b1 intO) := ⟨_, .inr ⟨"int", by decide +kernel, call_int1⟩, fun R rs p => by
  obtain ⟨a, v, d, rfl, rfl, hv, e, p⟩ := p.b1 rs
  cases a <;> try (cases e; done)
  · rename_i i
    have e := Option.some.inj e
    subst e
    exact .inr ⟨i, by rw [hv.blI], p.val R (rep_int _)⟩
  · rename_i i
    have e := Option.some.inj e
    subst e
    exact .inl ⟨i, by rw [hv.intI], p.val R (rep_int _)⟩⟩
theorem b_str : BOk X "str" (b1 strO) := ⟨_, .inr ⟨"str", by decide +kernel, CallR.or call_str_int SkE.call_str_str⟩, fun R rs p => by
  obtain ⟨a, v, d, rfl, rfl, hv, e, p⟩ := p.b1 rs
  cases a <;> try (cases e; done)
  · rename_i i
    unfold strO at e
    dsimp only at e
    split at e
    · rename_i hz
      have e := Option.some.inj e
      subst e
      exact .inl ⟨i, by rw [hv.intI], hz, p.val R (rep_str _)⟩
    · cases e
  · rename_i z
    have e := Option.some.inj e
    subst e
    exact .inr ⟨z, by rw [hv.strI], p.val R (rep_str _)⟩⟩
theorem b_repr (hg : X.A.guards = some []) (hu : X.A.units + 65 < cLine) : BOk X "repr" (b1 reprO) := ⟨_, .inl ⟨"repr", by decide +kernel, call_repr hg hu⟩, fun {F μ H S W Q as vs} R rs p => by
  obtain ⟨a, v, d, rfl, rfl, hv, e, p⟩ := p.b1 rs
  have sq : (∃ q, v = .ref q) → reprC S a = some d → rRepr X.K [v] H Q := fun ⟨q, hq⟩ e => by
    subst hq
    obtain ⟨w, e1, e⟩ := obind e
    split at e
    · rename_i z
      rw [Bool.and_eq_true, Bool.and_eq_true, Bool.and_eq_true] at z
      obtain ⟨z1, z2, z3, z4⟩ := z
      have z4 : w.hasDict = false := by simpa using z4
      have e := Option.some.inj e
      subst e
      exact .inl ⟨q, w, rfl, dp_of R hv e1 z4, z1, z4, of_decide_eq_true z3, of_decide_eq_true z2, p.val R (rep_str _)⟩
    · cases e
  cases a with
  | tup xs => exact sq (let ⟨q, _, e, _⟩ := hv.tupI; ⟨q, e⟩) e
  | lst xs => exact sq (let ⟨q, _, e, _⟩ := hv.lstI; ⟨q, e⟩) e
  | loc xs => exact sq (let ⟨q, e, _⟩ := hv.locI; ⟨q, e⟩) e
  | int i =>
    unfold reprO at e
    dsimp only at e
    split at e
    · rename_i hz
      have e := Option.some.inj e
      subst e
      exact .inr ⟨i, by rw [hv.intI], hz, p.val R (rep_str _)⟩
    · cases e
  | _ => cases e⟩
theorem b_tuple : BOk X "tuple" (b1 tupO) := ⟨_, .inr ⟨"tuple", by decide +kernel, call_tuple_of⟩, fun {F μ H S W Q as vs} R rs p0 => by
  obtain ⟨a, v, d, e0, rfl, hv, e, p⟩ := p0.b1 rs
  clear p0 rs
  obtain ⟨xs, e1, rfl⟩ := omap e
  clear e e0
  have sq : litemsO S a = some xs → ∃ q us, [v] = [V.ref q] ∧ ((SqL X.K H q us ∧ ∀ l, H l = none → Q (.ref l) (upd H l (.tup us))) ∨ (SqT X.K H q us ∧ Q (.ref q) H)) := fun e => by
    obtain ⟨q, us, rfl, hp, r2⟩ := R.list hv e
    exact ⟨q, us, rfl, .inl ⟨SqL.of hp, fun l hl => p.tup R hl r2⟩⟩
  cases a with
  | tup ys =>
    cases e1
    obtain ⟨q, us, rfl, hp, r2⟩ := hv.tupI
    exact ⟨q, us, rfl, .inr ⟨hp.sq, p.val R hv⟩⟩
  | lst ys => exact sq e1
  | loc ys => exact sq e1
  | _ => cases e1⟩
theorem minI_mem : ∀ {ns : List Int} {w : Int}, minI ns = some w → w ∈ ns
  | [], _, e => by cases e
  | [x], m, e => by have : x = m := Option.some.inj e; rw [← this]; simp
  | x :: z :: xs, m, e => by
    have e : (minI (z :: xs)).map (fun y => if y < x then y else x) = some m := e
    obtain ⟨u, e3, e4⟩ := omap e
    split at e4
    · rw [← e4]; exact List.mem_cons_of_mem _ (minI_mem e3)
    · rw [← e4]; simp
theorem maxI_mem : ∀ {ns : List Int} {w : Int}, maxI ns = some w → w ∈ ns
  | [], _, e => by cases e
  | [x], m, e => by have : x = m := Option.some.inj e; rw [← this]; simp
  | x :: z :: xs, m, e => by
    have e : (maxI (z :: xs)).map (fun y => if x < y then y else x) = some m := e
    obtain ⟨u, e3, e4⟩ := omap e
    split at e4
    · rw [← e4]; exact List.mem_cons_of_mem _ (maxI_mem e3)
    · rw [← e4]; simp
theorem minI_le : ∀ {ns : List Int} {m y : Int}, minI ns = some m → (∀ z ∈ ns, y ≤ z) → y ∈ ns → y = m
  | [], _, _, e, _, _ => by cases e
  | [x], m, y, e, _, h => by
    have : x = m := Option.some.inj e
    rw [← this]
    simpa using h
  | x :: z :: xs, m, y, e, l, h => by
    have e : (minI (z :: xs)).map (fun y => if y < x then y else x) = some m := e
    obtain ⟨w, e1, e2⟩ := omap e
    have hx : y ≤ x := l x (by simp)
    by_cases hy : y ∈ z :: xs
    · have := minI_le e1 (fun u hu => l u (List.mem_cons_of_mem _ hu)) hy
      subst this
      split at e2 <;> omega
    · have hyx : y = x := by
        rcases List.mem_cons.mp h with h | h
        · exact h
        · exact absurd h hy
      subst hyx
      have hw : w ∈ z :: xs := minI_mem e1
      have := l w (List.mem_cons_of_mem _ hw)
      split at e2 <;> omega
theorem maxI_le : ∀ {ns : List Int} {m y : Int}, maxI ns = some m → (∀ z ∈ ns, z ≤ y) → y ∈ ns → y = m
  | [], _, _, e, _, _ => by cases e
  | [x], m, y, e, _, h => by
    have : x = m := Option.some.inj e
    rw [← this]
    simpa using h
  | x :: z :: xs, m, y, e, l, h => by
    have e : (maxI (z :: xs)).map (fun y => if x < y then y else x) = some m := e
    obtain ⟨w, e1, e2⟩ := omap e
    have hx : x ≤ y := l x (by simp)
    by_cases hy : y ∈ z :: xs
    · have := maxI_le e1 (fun u hu => l u (List.mem_cons_of_mem _ hu)) hy
      subst this
      split at e2 <;> omega
    · have hyx : y = x := by
        rcases List.mem_cons.mp h with h | h
        · exact h
        · exact absurd h hy
      subst hyx
      have hw : w ∈ z :: xs := maxI_mem e1
      have := l w (List.mem_cons_of_mem _ hw)
      split at e2 <;> omega
theorem b_min (hc : X.calm = true) : BOk X "min" (b1 minO) := ⟨_, .inl ⟨"min", by decide +kernel, CallR.or (cr_min hc) (MIR.cr_minT hc)⟩, fun R rs p => by
  obtain ⟨a, v, d, rfl, rfl, hv, e, p⟩ := p.b1 rs
  obtain ⟨xs, e1, e⟩ := obind e
  obtain ⟨bs, e2, e⟩ := obind e
  obtain ⟨m, e3, rfl⟩ := omap e
  obtain ⟨q, us, rfl, hp, r2⟩ := R.seq hv e1
  have hne : 0 < bs.length := by cases bs with | nil => cases e3 | cons _ _ => simp
  rcases hp with hp | hp
  · exact .inl ⟨q, bs, rfl, by rw [← ints_of r2 e2]; exact hp.2, hne, fun y h1 h2 => by rw [minI_le e3 h2 h1]; exact p.val R (rep_int _)⟩
  · exact .inr ⟨q, bs, rfl, by rw [← ints_of r2 e2]; exact hp, hne, fun y h1 h2 => by rw [minI_le e3 h2 h1]; exact p.val R (rep_int _)⟩⟩
theorem b_max (hc : X.calm = true) : BOk X "max" (b1 maxO) := ⟨_, .inl ⟨"max", by decide +kernel, CallR.or (cr_max hc) (MIR.cr_maxT hc)⟩, fun R rs p => by
  obtain ⟨a, v, d, rfl, rfl, hv, e, p⟩ := p.b1 rs
  obtain ⟨xs, e1, e⟩ := obind e
  obtain ⟨bs, e2, e⟩ := obind e
  obtain ⟨m, e3, rfl⟩ := omap e
  obtain ⟨q, us, rfl, hp, r2⟩ := R.seq hv e1
  have hne : 0 < bs.length := by cases bs with | nil => cases e3 | cons _ _ => simp
  rcases hp with hp | hp
  · exact .inl ⟨q, bs, rfl, by rw [← ints_of r2 e2]; exact hp.2, hne, fun y h1 h2 => by rw [maxI_le e3 h2 h1]; exact p.val R (rep_int _)⟩
  · exact .inr ⟨q, bs, rfl, by rw [← ints_of r2 e2]; exact hp, hne, fun y h1 h2 => by rw [maxI_le e3 h2 h1]; exact p.val R (rep_int _)⟩⟩
theorem b_min2 (hc : X.calm = true) : BOk X "min" min2D := ⟨_, .inl ⟨"min", by decide +kernel, call_min2 hc⟩, fun R rs p => by
  unfold min2D at p
  split at p
  · obtain ⟨v, u, rfl, hv, hu⟩ := rs.two
    exact ⟨_, _, by rw [hv.intI, hu.intI], p.val R (rep_int _)⟩
  · exact p.elim⟩
theorem b_max2 (hc : X.calm = true) : BOk X "max" max2D := ⟨_, .inl ⟨"max", by decide +kernel, call_max2 hc⟩, fun R rs p => by
  unfold max2D at p
  split at p
  · obtain ⟨v, u, rfl, hv, hu⟩ := rs.two
    exact ⟨_, _, by rw [hv.intI, hu.intI], p.val R (rep_int _)⟩
  · exact p.elim⟩
theorem b_divmod : BOk X "divmod" divmodD := ⟨_, .inl ⟨"divmod", by decide +kernel, call_divmodW⟩, fun R rs p => by
  unfold divmodD at p
  split at p
  · obtain ⟨v, u, rfl, hv, hu⟩ := rs.two
    obtain ⟨z, p⟩ := p.chkB
    rw [Bool.and_eq_true] at z
    refine ⟨_, _, by rw [hv.intI, hu.intI], ⟨of_decide_eq_true z.1, by simpa using z.2⟩, fun q hq => ?_⟩
    exact post.tup (ds := [.int _, .int _]) p R hq (Reps.cons (rep_int _) (Reps.cons (rep_int _) Reps.nil))
  · exact p.elim⟩
theorem b1_ok (hc : X.calm = true) (hg : X.A.guards = some []) (hu : X.A.units + 65 < cLine) {x : Str} {h : List D → M D} (e : cB1 x = some h) : BOk X x h := by
  unfold cB1 at e
  repeat' split at e
  all_goals first
    | (subst_vars; cases e; first | exact b_len | exact b_all hc | exact b_any hc | exact b_abs | exact b_int | exact b_str | exact b_repr hg hu | exact b_tuple | exact b_min hc | exact b_max hc | exact b_sum hc)
    | cases e
theorem b2_ok (hc : X.calm = true) {x : Str} {h : List D → M D} (e : cB2 x = some h) : BOk X x h := by
  unfold cB2 at e
  repeat' split at e
  all_goals first
    | (subst_vars; cases e; first | exact b_divmod | exact b_min2 hc | exact b_max2 hc)
    | cases e
end
end MI

/-! MI10: walks over enumerate, zip of lists and tuples alike. -/
namespace MIR
open PySem PySem.W PySem.Calls PyProof.Rows
open Sem (wp)
set_option maxHeartbeats 1000000 in
theorem meets_enum_1 {v : Value} {o : Obj} {H : Heap → Prop} (B : Begins v o H) :
    Meets (Builtin.«enumerate.__new__» ⟨[.type "enumerate", v], []⟩) (fun _ R s => H s.heap ∧
      R (.ok (.ret (.ref (s.heap.push o).objs.size))) { s with heap := (s.heap.push o).push { cls := .type "enumerate", data := .fields #[.none, .bool false, .ref s.heap.objs.size, rawInt 0, .none, .none] } }) :=
  .of_wp fun prog w A R s h => by
    obtain ⟨hp, g, d, tk, os⟩ := s; obtain ⟨h1, h⟩ := h
    have hsub := sub_enumerate
    have q1 : ∀ {A' : Around} {E : Value → Shared → Prop} {Q : Value → Shared → Prop}, Q (.ref hp.objs.size) ⟨hp.push o, g, d, tk, os⟩ → wpAny (model prog w) A' (pyIter v) Q E ⟨hp, g, d, tk, os⟩ :=
      fun q => B.iter prog w _ _ ⟨hp, g, d, tk, os⟩ _ h1 q
    wp_walk using q1
    refine wpAny_stack_any fun st => wpAny_pure ?_
    split
    · rename_i c _ _ _ _ _
      cases (c == Value.type "enumerate")
      all_goals (wp_walk using q1; exact ⟨_, rfl, h⟩)
    · wp_walk using q1
      exact ⟨_, rfl, h⟩
theorem enum_1 {prog : Program} {w : World} {A : Around} {E : Value → Shared → Prop} {s : Shared} {v : Value} {o : Obj} {H : Heap → Prop} {Q : Value → Shared → Prop} (B : Begins v o H) (h1 : H s.heap)
    (h : ∀ h', IsEnum h' (s.heap.objs.size + 1) s.heap.objs.size 0 .none → h'.get? s.heap.objs.size = some o → (∀ b o, s.heap.get? b = some o → h'.get? b = some o) → Q (.ref (s.heap.objs.size + 1)) { s with heap := h' }) :
    wpAny (model prog w) A (call (.type "enumerate") [v]) Q E s := by
  refine callType_new F.called_enumerate (by decide) (F.typeCall_enumerate_1 _) (F.newCall_enumerate_1 _) (fun obj => F.args_object_init_2 obj _) F.entry_enumerate_new (meets_enum_1 B) ⟨h1, ?_⟩
  have hz : (s.heap.push o).objs.size = s.heap.objs.size + 1 := Heap.size_push ..
  have he := Heap.get?_push_size (s.heap.push o) (o := { cls := .type "enumerate", data := .fields #[.none, .bool false, .ref s.heap.objs.size, rawInt 0, .none, .none] }) rfl
  rw [hz] at he
  show _ ∧ _
  rw [hz]
  exact ⟨⟨_, he, rfl⟩, h _ he (Heap.get?_push_of_some _ (Heap.get?_push_size _ B.free)) fun b o x => Heap.get?_push_of_some _ (Heap.get?_push_of_some _ x)⟩
end MIR
namespace MI
open PySem PySem.Spec PyProof.Rows L2
/-- a list or a tuple -/
inductive Sk where
  | l | t
def SqK (K : PySem.W.Frag) : Sk → Hp → Addr → List V → Prop
  | .l => SqL K
  | .t => SqT K
def ItrK : Sk → Heap → Addr → Addr → Nat → Prop
  | .l => fun h it a i => h.IsListIter it a i
  | .t => fun h it a i => h.IsTupleIter it a i
def IsK : Sk → Heap → Addr → Array Value → Prop
  | .l => fun h a xs => h.IsList a xs
  | .t => fun h a xs => h.IsTuple a xs
def itO : Sk → Addr → Obj
  | .l => fun a => { cls := .type "list_iterator", data := .fields #[.ref a, .int 0 0] }
  | .t => fun a => { cls := .type "tuple_iterator", data := .fields #[.ref a, .int 0 0] }
theorem drawsK (k : Sk) {prog : Program} {w : World} {A : Around} (hh : A.handled = none) (it a : Addr) (hne : a ≠ it) (items : Array Value) :
    Draws prog w A it [it, a] items.size (fun i v => items[i]? = some v) (fun i h => ItrK k h it a i ∧ IsK k h a items) := by
  cases k with
  | l => exact Draws.list hh it a hne items
  | t => exact Draws.tuple hh it a hne items
theorem beginsK (k : Sk) (a : Addr) (items : Array Value) : Begins (.ref a) (itO k a) fun h => IsK k h a items := by
  cases k with
  | l => exact begins_list a items
  | t => exact begins_tuple a items
theorem ItrK.first (k : Sk) {h : Heap} {it a : Addr} (e : h.get? it = some (itO k a)) : ItrK k h it a 0 := by
  cases k with
  | l => exact ⟨_, e, rfl, rfl⟩
  | t => exact ⟨_, e, rfl, rfl⟩
theorem ItrK.obj {k : Sk} {h : Heap} {it a : Addr} {i : Nat} (e : ItrK k h it a i) : ∃ o, h.get? it = some o ∧ ∀ v, o.data ≠ .cell v := by
  cases k with
  | l =>
    obtain ⟨o, e1, _, d⟩ := e
    exact ⟨o, e1, fun v q => by rw [d] at q; cases q⟩
  | t =>
    obtain ⟨o, e1, _, d⟩ := e
    exact ⟨o, e1, fun v q => by rw [d] at q; cases q⟩
theorem ItrK.lt {k : Sk} {h : Heap} {it a : Addr} {i : Nat} (e : ItrK k h it a i) : it < h.objs.size := by
  obtain ⟨o, e1, _⟩ := e.obj
  exact Heap.lt_size e1
theorem ItrK.at {k : Sk} {h h' : Heap} {it a : Addr} {i : Nat} (e : ItrK k h it a i) (q : ∀ o, h.get? it = some o → h'.get? it = some o) : ItrK k h' it a i := by
  cases k with
  | l => exact Heap.IsListIter.at e q
  | t => exact Heap.IsTupleIter.at e q
section
variable {X : Cx} {pins : List (Addr × Obj)} {σ : L2.St} {H : Hp} {s : Shared}
theorem Inv.sqK (I : Inv X pins σ H s) {k : Sk} {a : Addr} {xs : List V} (h : SqK X.K k H a xs) : ∃ its, Vals xs its ∧ IsK k s.heap a its.toArray ∧ a < s.heap.objs.size := by
  cases k with
  | l =>
    obtain ⟨its, r, p, _⟩ := I.list h
    exact ⟨its, r, p.isList, p.lt⟩
  | t =>
    obtain ⟨its, r, p, _⟩ := I.tuple h
    obtain ⟨o, ho, _⟩ := id p
    exact ⟨its, r, p, Heap.lt_size ho⟩
theorem Inv.sqK_inj (I : Inv X pins σ H s) {k : Sk} {a : Addr} {xs ys : List V} (h : SqK X.K k H a xs) (g : SqK X.K k H a ys) : xs = ys := by
  cases k with
  | l => exact I.list_inj h g
  | t => exact I.tuple_inj h g
end
/-! ### enumerate -/
def ItE (K : PySem.W.Frag) (k : Sk) (a : Addr) : It :=
  ⟨fun i H => ∃ (xs : List V) (x : V), SqK K k H a xs ∧ xs[i]? = some x, fun i H v H' => ∃ T x, v = .ref T ∧ H T = none ∧ H' = upd H T (.tup [.int (i : Nat), x]) ∧ ∀ xs, SqK K k H a xs → xs[i]? = some x,
    fun i H => ∃ xs : List V, SqK K k H a xs ∧ xs.length = i⟩
theorem turn_enumK {P : Program} {w : World} {K : PySem.W.Frag} {elts : List Expr} {kk : Nat} {tpos : Pos} (k : Sk) (a e it : Addr) (hne : e ≠ it) (ha : a ≠ it) (hae : a ≠ e) :
    Turn P w K (.Tuple elts kk tpos) (ItE K k a) [e, it] e (fun i h => (∃ old, IsEnum h e it ((i : Nat) : Int) old) ∧ ItrK k h it a i) where
  mem := by simp
  obj := fun i h st b hb => by
    obtain ⟨⟨old, he⟩, hi⟩ := st
    rcases (by simpa using hb : b = e ∨ b = it) with z | z
    · rw [z]; exact ⟨_, he, fun v q => nomatch q⟩
    · rw [z]; exact hi.obj
  keep := fun i h h' st q => let ⟨⟨old, he⟩, hi⟩ := st; ⟨⟨old, q e (by simp) _ he⟩, hi.at fun o z => q it (by simp) o z⟩
  item := by
    intro X hP hw hK hc i pins s σ H E I hf st hg
    subst hP hw hK
    obtain ⟨⟨old, he⟩, hit⟩ := st
    obtain ⟨xs, x, hq, hx⟩ := hg
    obtain ⟨its, rv, p, _⟩ := Inv.sqK I hq
    obtain ⟨u, hu, ru⟩ := rv.get hx
    have hel : e < s.heap.objs.size := Heap.lt_size he
    have hil := hit.lt
    have hi : i < its.toArray.size := by
      rw [List.size_toArray]
      exact (List.getElem?_eq_some_iff.mp hu).1
    refine wpAny_pyNext_enum_itemC (drawsK k (A := X.A.in1) (I.ok.hd hc) it a ha its.toArray) he ⟨hit, p⟩ hi hne (by simp [hne, Ne.symm hae]) fun v h' tk hv ho hst hT hsz hk => ?_
    have ev : v = u := by
      have hv : its.toArray[i]? = some v := hv
      rw [← Array.getElem?_toList] at hv
      exact Option.some.inj (hv.symm.trans hu)
    subst ev
    refine ⟨_, rfl, wpAny_letOwnedTupleGo_enum (s := { s with heap := h', toks := tk + 1 }) ho fun h'' he' sb => ?_⟩
    have hT2 : h''.get? s.heap.objs.size = some { cls := .type "tuple", data := .seq #[.int i tk, v] } := (sb.2 _ (Nat.ne_of_gt hel)).trans hT
    have new : ObjOk X.prog X.w (upd H s.heap.objs.size (.tup [.int (i : Nat), x])) h'' s.heap.objs.size (.tup [.int (i : Nat), x]) :=
      ⟨by show 2 ≤ sizeLine; decide, [.int i tk, v], .cons ⟨_, rfl⟩ (.cons ru .nil), ⟨_, hT2, rfl, _, rfl⟩⟩
    have I1 : Inv X pins σ (upd H s.heap.objs.size (.tup [.int (i : Nat), x])) { s with heap := h'', toks := tk + 1 } :=
      I.turnedNew (ch := [e, it]) (fun b ob hb q => (sb.2 b (fun z => hb (by simp [z]))).trans (hk b ob (fun z => hb (by simp [z])) (fun z => hb (by simp [z])) q)) hf (Nat.le_refl _) new
    refine ⟨.ref s.heap.objs.size, _, I1, rfl, ⟨_, x, rfl, I.hok.fresh (Nat.le_refl _), rfl, fun ys hy => by rw [Inv.sqK_inj I hy hq]; exact hx⟩, ⟨⟨v, ?_⟩, hst.1.at fun o q => (sb.2 it (Ne.symm hne)).trans q⟩, fun b hb => ?_⟩
    · have e1 : ((i + 1 : Nat) : Int) = (i : Int) + 1 := by omega
      rw [e1]; exact he'
    · have hb' : b < s.heap.objs.size := by
        rcases (by simpa using hb : b = e ∨ b = it) with z | z
        · rw [z]; exact hel
        · rw [z]; exact hil
      rw [upd_ne (Nat.ne_of_lt hb')]
      exact (hf b hb).1
  done := by
    intro X hP hw hK hc i pins s σ H E I hf st hg
    subst hP hw hK
    obtain ⟨⟨old, he⟩, hit⟩ := st
    obtain ⟨xs, hq, hx⟩ := hg
    obtain ⟨its, rv, p, _⟩ := Inv.sqK I hq
    obtain ⟨f0, f1, f2, f3, f4, f5⟩ := hf it (by simp)
    have hn : i = its.toArray.size := by rw [List.size_toArray, ← rv.length]; exact hx.symm
    subst hn
    exact wpAny_pyNext_enum_endD (drawsK k (A := X.A.in1) (I.ok.hd hc) it a ha its.toArray) he ⟨hit, p⟩ fun h' eb => ⟨rfl, I.turned (t' := s.toks) (fun b o hb q => eb b o hb q) f0 f1 f3 f4 f5⟩
  self := fun A i s Q E st h => let ⟨⟨_, he⟩, _⟩ := st; wpAny_pyIter_enum he h
def iEnumK (K : PySem.W.Frag) (ta : TA) : TI := fun σ H R => ta σ H fun vs H1 => ∃ k a xs, vs = [.ref a] ∧ SqK K k H1 a xs ∧ R (ItE K k a) H1
theorem pi_enumK {X : Cx} {e : Expr} {ta : TA} {p pos tpos : Pos} {elts : List Expr} {kk : Nat} (hg : Gl X "enumerate") (hm : X.mg "enumerate" = none) (ha : PA X [e] ta) (hs : starEach [e] X.env = [(false, eval e X.env)]) :
    PI X (.Tuple elts kk tpos) (.Call (.Name "enumerate" p) [e] [] pos) (iEnumK X.K ta) := by
  refine ⟨fun pins s σ H R I h => ?_⟩
  refine Call_ (ld_blt I hg hm boot_enumerate (PyProof.Rows.callWith_type1 (thn (ha.run pos pins s σ H _ I h) fun us s1 ⟨vs, H1, I1, r1, q1⟩ => ?_) hs rfl))
  obtain ⟨k, a, xs, ex, hq, q⟩ := q1
  subst ex
  rw [Vals.ref1 r1]
  obtain ⟨its, rv, p', hlt⟩ := Inv.sqK I1 hq
  refine MIR.enum_1 (beginsK k a its.toArray) p' fun h' he hit hk => wpAny_pyIter_enum he ?_
  have I2 : Inv X pins σ H1 { s1 with heap := h' } := I1.kept (t' := s1.toks) hk
  refine ⟨s1.heap.objs.size + 1, [s1.heap.objs.size + 1, s1.heap.objs.size], _, _, H1, rfl, I2, turn_enumK k a (s1.heap.objs.size + 1) s1.heap.objs.size (Nat.succ_ne_self _) (Nat.ne_of_lt hlt) (Nat.ne_of_lt (Nat.lt_succ_of_lt hlt)), ⟨⟨.none, he⟩, ItrK.first k hit⟩, fun b hb => ?_, q⟩
  have hle : s1.heap.objs.size ≤ b := by
    rcases (by simpa using hb : b = s1.heap.objs.size + 1 ∨ b = s1.heap.objs.size) with z | z
    · rw [z]; exact Nat.le_add_right _ _
    · rw [z]; exact Nat.le_refl _
  exact I1.fpOk hle (I1.hok.fresh hle)
/-! ### zip -/
def ItZ (K : PySem.W.Frag) (k1 k2 : Sk) (a b : Addr) : It :=
  ⟨fun i H => ∃ (xs ys : List V) (x y : V), SqK K k1 H a xs ∧ SqK K k2 H b ys ∧ xs[i]? = some x ∧ ys[i]? = some y,
    fun i H v H' => ∃ T x y, v = .ref T ∧ H T = none ∧ H' = upd H T (.tup [x, y]) ∧ (∀ xs, SqK K k1 H a xs → xs[i]? = some x) ∧ ∀ ys, SqK K k2 H b ys → ys[i]? = some y,
    fun i H => ∃ xs ys : List V, SqK K k1 H a xs ∧ SqK K k2 H b ys ∧ i = min xs.length ys.length⟩
theorem turn_zipK {P : Program} {w : World} {K : PySem.W.Frag} {elts : List Expr} {kk : Nat} {tpos : Pos} (k1 k2 : Sk) {a b z TI TO i1 i2 : Addr} (D : ZipSep2 z TI TO i1 i2 [i1, a] [i2, b]) (na1 : a ≠ i1) (na2 : b ≠ i2) :
    Turn P w K (.Tuple elts kk tpos) (ItZ K k1 k2 a b) [z, TI, TO, i1, i2] z (fun i h => IsZip h z TI TO .none ∧ IsTupOf2 h TI (.ref i1) (.ref i2) ∧ (∃ x y, IsTupOf2 h TO x y) ∧ ItrK k1 h i1 a i ∧ ItrK k2 h i2 b i) where
  mem := by simp
  obj := fun i h st c hc => by
    obtain ⟨hz, hTI, ⟨x, y, hTO⟩, h1, h2⟩ := st
    rcases (by simpa using hc : c = z ∨ c = TI ∨ c = TO ∨ c = i1 ∨ c = i2) with q | q | q | q | q
    · rw [q]; exact ⟨_, hz, fun v q => nomatch q⟩
    · rw [q]; exact ⟨_, hTI, fun v q => nomatch q⟩
    · rw [q]; exact ⟨_, hTO, fun v q => nomatch q⟩
    · rw [q]; exact h1.obj
    · rw [q]; exact h2.obj
  keep := fun i h h' st k => by
    obtain ⟨hz, hTI, ⟨x, y, hTO⟩, h1, h2⟩ := st
    exact ⟨k z (by simp) _ hz, k TI (by simp) _ hTI, ⟨x, y, k TO (by simp) _ hTO⟩, h1.at fun o q => k i1 (by simp) o q, h2.at fun o q => k i2 (by simp) o q⟩
  item := by
    intro X hP hw hK hc i pins s σ H E I hf st hg
    subst hP hw hK
    obtain ⟨hz, hTI, ⟨x0, y0, hTO⟩, h1, h2⟩ := st
    obtain ⟨xs, ys, x, y, hqx, hqy, hx, hy⟩ := hg
    obtain ⟨its, rv, p, _⟩ := Inv.sqK I hqx
    obtain ⟨its2, rv2, p2, _⟩ := Inv.sqK I hqy
    obtain ⟨u, hu, ru⟩ := rv.get hx
    obtain ⟨u2, hu2, ru2⟩ := rv2.get hy
    have hzl : z < s.heap.objs.size := Heap.lt_size hz
    have hi1 : i < its.toArray.size := by rw [List.size_toArray]; exact (List.getElem?_eq_some_iff.mp hu).1
    have hi2 : i < its2.toArray.size := by rw [List.size_toArray]; exact (List.getElem?_eq_some_iff.mp hu2).1
    refine wpAny_pyNext_zipD2_item D (drawsK k1 (A := X.A.in1) (I.ok.hd hc) i1 a na1 its.toArray) (drawsK k2 (A := X.A.in1) (I.ok.hd hc) i2 b na2 its2.toArray) hz hTI hTO ⟨h1, p⟩ ⟨h2, p2⟩ hi1 hi2 fun v v2 h' tk hv hv2 z' TO' hst1 hst2 hT hsz hk => ?_
    have ev : v = u := by
      have hv : its.toArray[i]? = some v := hv
      rw [← Array.getElem?_toList] at hv
      exact Option.some.inj (hv.symm.trans hu)
    have ev2 : v2 = u2 := by
      have hv2 : its2.toArray[i]? = some v2 := hv2
      rw [← Array.getElem?_toList] at hv2
      exact Option.some.inj (hv2.symm.trans hu2)
    subst ev ev2
    refine ⟨_, rfl, wpAny_letOwnedTupleGo_zip (s := { s with heap := h', toks := tk }) z' fun h'' z'' sb => ?_⟩
    have hT2 : h''.get? s.heap.objs.size = some { cls := .type "tuple", data := .seq #[v, v2] } := (sb.2 _ (Nat.ne_of_gt hzl)).trans hT
    have new : ObjOk X.prog X.w (upd H s.heap.objs.size (.tup [x, y])) h'' s.heap.objs.size (.tup [x, y]) :=
      ⟨by show 2 ≤ sizeLine; decide, [v, v2], .cons ru (.cons ru2 .nil), ⟨_, hT2, rfl, _, rfl⟩⟩
    have I1 : Inv X pins σ (upd H s.heap.objs.size (.tup [x, y])) { s with heap := h'', toks := tk } :=
      I.turnedNew (ch := [z, TI, TO, i1, i2]) (fun c o hb q => (sb.2 c (fun q' => hb (by simp [q']))).trans (hk c o (fun q' => hb (by simp [q'])) (fun q' => hb (by simp [q'])) (fun q' => hb (by simp [q'])) (fun q' => hb (by simp [q'])) q)) hf (Nat.le_refl _) new
    refine ⟨.ref s.heap.objs.size, _, I1, rfl, ⟨_, x, y, rfl, I.hok.fresh (Nat.le_refl _), rfl, fun l hl => by rw [Inv.sqK_inj I hl hqx]; exact hx, fun l hl => by rw [Inv.sqK_inj I hl hqy]; exact hy⟩, ⟨z'', ?_, ⟨v, v2, ?_⟩, ?_, ?_⟩, fun c hcm => ?_⟩
    · exact (sb.2 _ D.TIz).trans (hk _ _ D.TIz D.TITO D.TIi1 D.TIi2 hTI)
    · exact (sb.2 _ D.TOz).trans TO'
    · exact hst1.1.at fun o q => (sb.2 _ (Ne.symm D.zi1)).trans q
    · exact hst2.1.at fun o q => (sb.2 _ (Ne.symm D.zi2)).trans q
    · have hlt : c < s.heap.objs.size := by
        rcases (by simpa using hcm : c = z ∨ c = TI ∨ c = TO ∨ c = i1 ∨ c = i2) with q | q | q | q | q
        · rw [q]; exact hzl
        · rw [q]; exact Heap.lt_size hTI
        · rw [q]; exact Heap.lt_size hTO
        · rw [q]; exact h1.lt
        · rw [q]; exact h2.lt
      rw [upd_ne (Nat.ne_of_lt hlt)]
      exact (hf c hcm).1
  done := by
    intro X hP hw hK hc i pins s σ H E I hf st hg
    subst hP hw hK
    obtain ⟨hz, hTI, ⟨x0, y0, hTO⟩, h1, h2⟩ := st
    obtain ⟨xs, ys, hqx, hqy, hend⟩ := hg
    obtain ⟨its, rv, p, _⟩ := Inv.sqK I hqx
    obtain ⟨its2, rv2, p2, _⟩ := Inv.sqK I hqy
    have l1 := rv.length
    have l2 := rv2.length
    have e1 : its.toArray.size = its.length := List.size_toArray ..
    have e2 : its2.toArray.size = its2.length := List.size_toArray ..
    refine wpAny_pyNext_zipD2_end D (drawsK k1 (A := X.A.in1) (I.ok.hd hc) i1 a na1 its.toArray) (drawsK k2 (A := X.A.in1) (I.ok.hd hc) i2 b na2 its2.toArray) hz hTI hTO ⟨h1, p⟩ ⟨h2, p2⟩ (by omega) (by omega) (by omega) fun h' tk hk => ⟨rfl, I.turnedL (ch := [z, TI, TO, i1, i2]) (fun c o hb q =>
      hk c o (fun q' => hb (by simp [q'])) (fun q' => hb (by simp [q'])) (fun q' => hb (by simp [q'])) (fun q' => hb (by simp [q'])) q) hf⟩
  self := fun A i s Q E st h => wpAny_pyIter_zip st.1 h
def iZipK (K : PySem.W.Frag) (ta : TA) : TI := fun σ H R => ta σ H fun vs H1 => ∃ k1 k2 a b xs ys, vs = [.ref a, .ref b] ∧ SqK K k1 H1 a xs ∧ SqK K k2 H1 b ys ∧ R (ItZ K k1 k2 a b) H1
theorem pi_zipK {X : Cx} {e e2 : Expr} {ta : TA} {p pos tpos : Pos} {elts : List Expr} {kk : Nat} (hg : Gl X "zip") (hm : X.mg "zip" = none) (ha : PA X [e, e2] ta)
    (hs : starEach [e, e2] X.env = (false, eval e X.env) :: starEach [e2] X.env) (hpl : (backTo pos (starEach [e2] X.env)).any (·.1) = false) :
    PI X (.Tuple elts kk tpos) (.Call (.Name "zip" p) [e, e2] [] pos) (iZipK X.K ta) := by
  refine ⟨fun pins s σ H R I h => ?_⟩
  refine Call_ (ld_blt I hg hm PyProof.Rows.boot_zip (PyProof.Rows.callWith_type1 (thn (ha.run pos pins s σ H _ I h) fun us s1 ⟨vs, H1, I1, r1, q1⟩ => ?_) hs hpl))
  obtain ⟨k1, k2, a, b, xs, ys, ex, hqx, hqy, q⟩ := q1
  subst ex
  cases r1 with
  | cons r rr =>
    cases rr with
    | cons r' rr =>
      cases rr
      cases r
      cases r'
      obtain ⟨its, rv, p1, l1⟩ := Inv.sqK I1 hqx
      obtain ⟨its2, rv2, p2, l2⟩ := Inv.sqK I1 hqy
      refine zip_begins2 (beginsK k1 a its.toArray) (beginsK k2 b its2.toArray) p1 p2 fun h' hz hTI hTO h1 h2 hsz hk => wpAny_pyIter_zip hz ?_
      have I2 : Inv X pins σ H1 { s1 with heap := h' } := I1.kept (t' := s1.toks) hk
      refine ⟨s1.heap.objs.size + 4, [s1.heap.objs.size + 4, s1.heap.objs.size + 2, s1.heap.objs.size + 3, s1.heap.objs.size, s1.heap.objs.size + 1], _, _, H1, rfl, I2, turn_zipK k1 k2 (zip_sep2 (fp1 := [a]) (fp2 := [b]) (by simpa using l1) (by simpa using l2)) (Nat.ne_of_lt l1) (Nat.ne_of_lt (Nat.lt_succ_of_lt l2)), ⟨hz, hTI, ⟨_, _, hTO⟩, ItrK.first k1 h1, ItrK.first k2 h2⟩, fun c hcm => ?_, q⟩
      have hle : s1.heap.objs.size ≤ c := by
        rcases (by simpa using hcm : c = s1.heap.objs.size + 4 ∨ c = s1.heap.objs.size + 2 ∨ c = s1.heap.objs.size + 3 ∨ c = s1.heap.objs.size ∨ c = s1.heap.objs.size + 1) with z | z | z | z | z
        · rw [z]; exact Nat.le_add_right _ _
        · rw [z]; exact Nat.le_add_right _ _
        · rw [z]; exact Nat.le_add_right _ _
        · rw [z]; exact Nat.le_refl _
        · rw [z]; exact Nat.le_add_right _ _
      exact I1.fpOk hle (I1.hok.fresh hle)
end MI

/-! MI11: what is walked; for, while, comprehensions. -/
namespace MI
open PySem PySem.Spec PyProof.Rows L2
/-! ### a list or a tuple, walked -/
def ItS (K : PySem.W.Frag) : Sk → Addr → It
  | .l => Itl K
  | .t => Itt K
def iSeqK (K : PySem.W.Frag) (te : TE) : TI := fun σ H R => te σ H fun x H1 => ∃ k a xs, x = .ref a ∧ SqK K k H1 a xs ∧ R (ItS K k a) H1
theorem pi_seqK {X : Cx} {tg e : Expr} {te : TE} (he : PE X e te) : PI X tg e (iSeqK X.K te) := by
  refine ⟨fun pins s σ H R I h => ?_⟩
  refine thn (he.run pins s σ H _ I h) fun v s1 ⟨x, H1, I1, r1, k, a, xs, e, hq, q⟩ => ?_
  subst e
  cases r1
  have fresh : ∀ b, b ∈ [s1.heap.objs.size] → FpOk X pins H1 b := fun b hb => by
    have e : b = s1.heap.objs.size := by simpa using hb
    subst e
    exact I1.fpOk (Nat.le_refl _) (I1.hok.fresh (Nat.le_refl _))
  cases k with
  | l =>
    obtain ⟨its, rv, p, hz⟩ := I1.list hq
    exact wpAny_pyIter_list p.isList ⟨s1.heap.objs.size, [s1.heap.objs.size], _, _, H1, rfl, I1.kept (t' := s1.toks) fun b o e => Heap.get?_push_of_some _ e, turn_list a _, ⟨_, Heap.get?_push_size _ rfl, rfl, rfl⟩, fresh, q⟩
  | t =>
    obtain ⟨its, rv, p, hz⟩ := I1.tuple hq
    exact wpAny_pyIter_tuple (show s1.heap.IsTuple a its.toArray from p) ⟨s1.heap.objs.size, [s1.heap.objs.size], _, _, H1, rfl, I1.kept (t' := s1.toks) fun b o e => Heap.get?_push_of_some _ e, turn_tuple a _, ⟨_, Heap.get?_push_size _ rfl, rfl, rfl⟩, fresh, q⟩
section
variable {K : PySem.W.Frag} {F F' F1 : Fz} {μ μ' μ1 : List Addr} {H H' H1 : Hp} {S S' S1 : Sto} {ρ : Env} {σ : L2.St} {W : XK}
theorem Mono.trans {F2 : Fz} {μ2 : List Addr} {H2 : Hp} (a : Mono F μ H F1 μ1 H1) (b : Mono F1 μ1 H1 F2 μ2 H2) : Mono F μ H F2 μ2 H2 := ⟨fun n x h => b.pre n x (a.pre n x h), fun x h => b.frz x (a.frz x h), fun hf h => b.kp (a.frz _ hf) (a.kp hf h)⟩
theorem Mono.ref : Mono F μ H F μ H := ⟨fun _ _ h => h, fun _ h => h, fun _ h => h⟩
/-- the walk J gives these, as long as what stands still stands -/
def Fixed (K : PySem.W.Frag) (F : Fz) (μ : List Addr) (H : Hp) (J : It) (xs : List D) : Prop := ∀ F' μ' H', Mono F μ H F' μ' H' →
  (∀ i, i < xs.length → J.go i H') ∧ J.stop xs.length H' ∧ ∀ i x H'' d S', J.yld i H' x H'' → xs[i]? = some d → Rl K F' μ' H' S' → ∃ F'', Ext F' μ' H' F'' μ' H'' ∧ Rl K F'' μ' H'' S' ∧ Rep K F'' μ' H'' d x
/-- a sequence that stands still -/
def SqF (K : PySem.W.Frag) (k : Sk) (F : Fz) (μ : List Addr) (H : Hp) (a : Addr) (xs : List D) : Prop := ∃ vs, Reps K F μ H xs vs ∧ ∀ F' μ' H', Mono F μ H F' μ' H' → SqK K k H' a vs
def ItOk (K : PySem.W.Frag) (s : Src) (F : Fz) (μ : List Addr) (H : Hp) (J : It) : Prop := match s with
  | .fix xs => Fixed K F μ H J xs
  | .live n => ∃ a, μ[n]? = some a ∧ J = Itl K a
  | .zlive n ys => ∃ a b k, μ[n]? = some a ∧ SqF K k F μ H b ys ∧ J = ItZ K .l k a b
def rdI (K : PySem.W.Frag) (W : XK) (c : Call) (f : MI) : TI := fun σ H R => ∃ F μ S ρ, Rl K F μ H S ∧ SlR K F μ H ρ σ ∧ post K F μ H (f c ρ S) (fun s F' μ' _ H' => ∀ J, ItOk K s F' μ' H' J → R J H') W
theorem SqF.of_tup {a : Addr} {xs : List D} {vs : List V} (t : TupAt K F H a vs) (r : Reps K F μ H xs vs) : SqF K .t F μ H a xs := ⟨vs, r, fun F' μ' H' m => by
  rcases t with ⟨hf, t⟩ | t
  · exact SqT.of (m.kp hf t)
  · exact t H'⟩
theorem SqF.of_lst {a : Addr} {xs : List D} {vs : List V} (hf : F a) (t : H a = some (.lst vs)) (r : Reps K F μ H xs vs) : SqF K .l F μ H a xs := ⟨vs, r, fun F' μ' H' m => SqL.of (m.kp hf t)⟩
theorem still_sq {d : D} {v : V} {xs : List D} (h : Rep K F μ H d v) (e : stillO d = some xs) : ∃ k a, v = .ref a ∧ SqF K k F μ H a xs := by
  cases d <;> try (cases e; done)
  · cases e
    obtain ⟨a, vs, rfl, t, r⟩ := h.tupI
    exact ⟨.t, a, rfl, SqF.of_tup t r⟩
  · cases e
    obtain ⟨a, vs, rfl, hf, t, r⟩ := h.lstI
    exact ⟨.l, a, rfl, SqF.of_lst hf t r⟩
theorem SqF.mono {k : Sk} {a : Addr} {xs : List D} (q : SqF K k F μ H a xs) (m : Mono F μ H F' μ' H') : SqF K k F' μ' H' a xs := by
  obtain ⟨vs, r, q⟩ := q
  exact ⟨vs, r.mono m, fun F2 μ2 H2 m2 => q F2 μ2 H2 (m.trans m2)⟩
theorem SqF.now {k : Sk} {a : Addr} {xs : List D} (q : SqF K k F μ H a xs) : ∃ vs, Reps K F μ H xs vs ∧ SqK K k H a vs := let ⟨vs, r, q⟩ := q; ⟨vs, r, q _ _ _ Mono.ref⟩
theorem fixed_seq {k : Sk} {a : Addr} {xs : List D} (q : SqF K k F μ H a xs) : Fixed K F μ H (ItS K k a) xs := fun F' μ' H' m => by
  obtain ⟨vs, r, q⟩ := q
  have r' := r.mono m
  have h := q F' μ' H' m
  have hl := r'.length
  have go : ∀ i, i < xs.length → ∃ ys y, SqK K k H' a ys ∧ ys[i]? = some y := fun i hi => ⟨vs, vs[i]'(by omega), h, List.getElem?_eq_getElem _⟩
  have fin : ∀ i (x : V) d S', (∀ ys, SqK K k H' a ys → ys[i]? = some x) → xs[i]? = some d → Rl K F' μ' H' S' → ∃ F'', Ext F' μ' H' F'' μ' H' ∧ Rl K F'' μ' H' S' ∧ Rep K F'' μ' H' d x := fun i x d S' y e R => by
    obtain ⟨v, e1, rv⟩ := r'.get e
    have e2 := y vs h
    rw [e1] at e2
    cases e2
    exact ⟨F', R.ref, R, rv⟩
  cases k with
  | l => exact ⟨go, ⟨vs, h, by omega⟩, fun i x H'' d S' y e R => by
      obtain ⟨e1, y⟩ := y
      subst e1
      exact fin i x d S' y e R⟩
  | t => exact ⟨go, ⟨vs, h, by omega⟩, fun i x H'' d S' y e R => by
      obtain ⟨e1, y⟩ := y
      subst e1
      exact fin i x d S' y e R⟩
theorem rangeL_length : ∀ (n : Nat) (lo : Int), (rangeL lo n).length = n
  | 0, _ => rfl
  | n + 1, lo => by unfold rangeL; rw [List.length_cons, rangeL_length n]
theorem rangeL_get : ∀ (n : Nat) (lo : Int) (i : Nat), i < n → (rangeL lo n)[i]? = some (.int (lo + i))
  | 0, _, _, h => by omega
  | n + 1, lo, 0, h => by unfold rangeL; simp
  | n + 1, lo, i + 1, h => by
    unfold rangeL
    rw [List.getElem?_cons_succ, rangeL_get n _ i (by omega)]
    congr 2
    omega
theorem fixed_range {lo : Int} {n : Nat} : Fixed K F μ H (Itr lo n) (rangeL lo n) := fun F' μ' H' m => by
  rw [rangeL_length]
  refine ⟨fun i hi => hi, Nat.le_refl _, fun i x H'' d S' y e R => ?_⟩
  obtain ⟨e1, rfl⟩ := y
  subst e1
  have hi : i < n := by
    have := (List.getElem?_eq_some_iff.mp e).1
    rw [rangeL_length] at this
    exact this
  rw [rangeL_get n lo i hi] at e
  cases e
  exact ⟨F', R.ref, R, rep_int _⟩
theorem downL_length : ∀ (n : Nat) (hi : Int), (downL hi n).length = n
  | 0, _ => rfl
  | n + 1, hi => by unfold downL; rw [List.length_cons, downL_length n]
theorem downL_get : ∀ (n : Nat) (hi : Int) (i : Nat), i < n → (downL hi n)[i]? = some (.int (hi + (i : Nat) * (-1)))
  | 0, _, _, h => by omega
  | n + 1, hi, 0, h => by unfold downL; simp
  | n + 1, hi, i + 1, h => by
    unfold downL
    rw [List.getElem?_cons_succ, downL_get n _ i (by omega)]
    congr 2
    omega
theorem fixed_down {hi : Int} {n : Nat} : Fixed K F μ H (Itc hi (-1) n) (downL hi n) := fun F' μ' H' m => by
  rw [downL_length]
  refine ⟨fun i hi => hi, Nat.le_refl _, fun i x H'' d S' y e R => ?_⟩
  obtain ⟨e1, rfl⟩ := y
  subst e1
  have hi2 : i < n := by
    have := (List.getElem?_eq_some_iff.mp e).1
    rw [downL_length] at this
    exact this
  rw [downL_get n hi i hi2] at e
  cases e
  exact ⟨F', R.ref, R, rep_int _⟩
theorem numb_length : ∀ (xs : List D) (n : Nat), (numb n xs).length = xs.length
  | [], _ => rfl
  | _ :: xs, n => by unfold numb; rw [List.length_cons, numb_length xs, List.length_cons]
theorem numb_get : ∀ (xs : List D) (n i : Nat) (d : D), (numb n xs)[i]? = some d → ∃ x, xs[i]? = some x ∧ d = .tup [.int ((n + i : Nat) : Int), x]
  | [], _, _, _, h => by simp [numb] at h
  | x :: xs, n, 0, d, h => by
    unfold numb at h
    simp at h
    exact ⟨x, rfl, by rw [← h]; simp⟩
  | x :: xs, n, i + 1, d, h => by
    unfold numb at h
    rw [List.getElem?_cons_succ] at h
    obtain ⟨y, e1, e2⟩ := numb_get xs (n + 1) i d h
    exact ⟨y, by simpa using e1, by rw [e2]; congr 3; omega⟩
theorem pair_new {T : Addr} {x y : V} {d e : D} (R : Rl K F μ H S) (hT : H T = none) (hd : Rep K F μ H d x) (he : Rep K F μ H e y) : ∃ F'', Ext F μ H F'' μ (upd H T (.tup [x, y])) ∧ Rl K F'' μ (upd H T (.tup [x, y])) S ∧ Rep K F'' μ (upd H T (.tup [x, y])) (.tup [d, e]) (.ref T) := by
  obtain ⟨e1, R1⟩ := R.laid hT (.tup [x, y])
  refine ⟨_, e1, R1, ?_⟩
  unfold Rep
  exact ⟨T, [x, y], rfl, .inl ⟨.inr rfl, upd_same⟩, Reps.cons (hd.ext e1) (Reps.cons (he.ext e1) Reps.nil)⟩
theorem fixed_enum {k : Sk} {a : Addr} {xs : List D} (q : SqF K k F μ H a xs) : Fixed K F μ H (ItE K k a) (numb 0 xs) := fun F' μ' H' m => by
  obtain ⟨vs, r, q⟩ := q
  have r' := r.mono m
  have h := q F' μ' H' m
  have hl := r'.length
  rw [numb_length]
  refine ⟨fun i hi => ⟨vs, vs[i]'(by omega), h, List.getElem?_eq_getElem _⟩, ⟨vs, h, hl⟩, fun i x H'' d S' y e R => ?_⟩
  obtain ⟨T, z, rfl, hT, rfl, hz⟩ := y
  obtain ⟨w, e1, rfl⟩ := numb_get xs 0 i d e
  obtain ⟨v, e2, rv⟩ := r'.get e1
  have e3 := hz vs h
  rw [e2] at e3
  cases e3
  rw [Nat.zero_add]
  exact pair_new R hT (rep_int _) rv
theorem zipD_length : ∀ (xs ys : List D), (zipD xs ys).length = min xs.length ys.length
  | [], _ => by simp [zipD]
  | _ :: _, [] => by simp [zipD]
  | _ :: xs, _ :: ys => by unfold zipD; rw [List.length_cons, zipD_length xs ys, List.length_cons, List.length_cons]; omega
theorem zipD_get : ∀ (xs ys : List D) (i : Nat) (d : D), (zipD xs ys)[i]? = some d → ∃ x y, xs[i]? = some x ∧ ys[i]? = some y ∧ d = .tup [x, y]
  | [], _, _, _, h => by simp [zipD] at h
  | _ :: _, [], _, _, h => by simp [zipD] at h
  | x :: xs, y :: ys, 0, d, h => by
    unfold zipD at h
    simp at h
    exact ⟨x, y, rfl, rfl, h.symm⟩
  | x :: xs, y :: ys, i + 1, d, h => by
    unfold zipD at h
    rw [List.getElem?_cons_succ] at h
    obtain ⟨u, v, e1, e2, e3⟩ := zipD_get xs ys i d h
    exact ⟨u, v, by simpa using e1, by simpa using e2, e3⟩
theorem fixed_zip {k1 k2 : Sk} {a b : Addr} {xs ys : List D} (q1 : SqF K k1 F μ H a xs) (q2 : SqF K k2 F μ H b ys) : Fixed K F μ H (ItZ K k1 k2 a b) (zipD xs ys) := fun F' μ' H' m => by
  obtain ⟨vs, r, q1⟩ := q1
  obtain ⟨us, r2, q2⟩ := q2
  have r' := r.mono m
  have r2' := r2.mono m
  have h := q1 F' μ' H' m
  have h2 := q2 F' μ' H' m
  have hl := r'.length
  have hl2 := r2'.length
  rw [zipD_length]
  refine ⟨fun i hi => ⟨vs, us, vs[i]'(by omega), us[i]'(by omega), h, h2, List.getElem?_eq_getElem _, List.getElem?_eq_getElem _⟩, ⟨vs, us, h, h2, by omega⟩, fun i x H'' d S' y e R => ?_⟩
  obtain ⟨T, z, w, rfl, hT, rfl, hz, hw⟩ := y
  obtain ⟨d1, d2, e1, e2, rfl⟩ := zipD_get xs ys i d e
  obtain ⟨v, e3, rv⟩ := r'.get e1
  obtain ⟨u, e4, ru⟩ := r2'.get e2
  have e5 := hz vs h
  rw [e3] at e5
  cases e5
  have e6 := hw us h2
  rw [e4] at e6
  cases e6
  exact pair_new R hT rv ru
end
/-! ### the readings of what is walked -/
section
variable {K : PySem.W.Frag} {W : XK} {c : Call} {σ : L2.St} {H : Hp} {R : It → Hp → Prop}
theorem post.items' {α : Type} {F : Fz} {μ : List Addr} {H : Hp} {S : Sto} {f : List D → M α} {d : D} {P : α → Fz → List Addr → Sto → Hp → Prop} (h : post K F μ H (M.bind (MI.litems d) f S) P W) : ∃ ds, litemsO S d = some ds ∧ post K F μ H (f ds S) P W := h.optB
theorem rdI_seq {f : ME} (w : rdI K W c (iSeq f) σ H R) : iSeqK K (rdE K W c f) σ H R := by
  obtain ⟨F, μ, S, ρ, r0, s0, p⟩ := w
  refine ⟨F, μ, S, ρ, r0, s0, p.bind.imp fun d F1 μ1 S1 H1 e1 r1 p1 x hx => ?_⟩
  cases d with
  | loc n =>
    obtain ⟨a, rfl, hn⟩ := hx.locI
    obtain ⟨xs, e, p1⟩ := p1.items'
    obtain ⟨b, vs, e2, hb, rs⟩ := r1.list hx e
    cases e2
    exact ⟨.l, a, vs, rfl, SqL.of hb, p1.at r1 (Itl K a) ⟨a, hn, rfl⟩⟩
  | tup xs =>
    obtain ⟨k, a, rfl, q⟩ := still_sq (xs := xs) hx rfl
    obtain ⟨vs, _, q2⟩ := q.now
    exact ⟨k, a, vs, rfl, q2, p1.at r1 (ItS K k a) (fixed_seq q)⟩
  | lst xs =>
    obtain ⟨k, a, rfl, q⟩ := still_sq (xs := xs) hx rfl
    obtain ⟨vs, _, q2⟩ := q.now
    exact ⟨k, a, vs, rfl, q2, p1.at r1 (ItS K k a) (fixed_seq q)⟩
  | _ => exact p1.elim
theorem rdI_B {h : List D → M Src} {f : MA} {r : List V → Hp → (It → Hp → Prop) → Prop} (w : rdI K W c (iB h f) σ H R)
    (k : ∀ F μ S H2 as xs, Rl K F μ H2 S → Reps K F μ H2 as xs → post K F μ H2 (h as S) (fun s F' μ' _ H' => ∀ J, ItOk K s F' μ' H' J → R J H') W → r xs H2 R) : rdA K W c f σ H fun xs H2 => r xs H2 R := by
  obtain ⟨F, μ, S, ρ, r0, s0, p⟩ := w
  exact ⟨F, μ, S, ρ, r0, s0, p.bind.imp fun a F1 μ1 S1 H1 e1 r1 p1 x hx => k F1 μ1 S1 H1 a x r1 hx p1⟩
theorem rdI_range1 {f : MA} (w : rdI K W c (iB range1D f) σ H R) : iRng1 (rdA K W c f) σ H R := by
  refine rdI_B (r := fun vs H1 R => ∃ j : Int, vs = [.int j] ∧ -(2 ^ 62) ≤ j ∧ j < 2 ^ 62 ∧ R (Itr 0 j.toNat) H1) w fun F μ S H2 as xs r1 hx p => ?_
  unfold range1D at p
  split at p
  · rename_i j
    obtain ⟨z, p⟩ := p.chkB
    have z : -(2 ^ 62) ≤ j ∧ j < 2 ^ 62 := of_decide_eq_true z
    obtain ⟨v, rfl, h⟩ := Reps.one hx
    exact ⟨j, by rw [h.intI], z.1, z.2, p.at r1 _ fixed_range⟩
  · exact p.elim
theorem rdI_range2 {f : MA} (w : rdI K W c (iB range2D f) σ H R) : iRng2 (rdA K W c f) σ H R := by
  refine rdI_B (r := fun vs H1 R => ∃ i j : Int, vs = [.int i, .int j] ∧ (-(2 ^ 62) ≤ i ∧ i < 2 ^ 62 ∧ -(2 ^ 62) ≤ j ∧ j < 2 ^ 62) ∧ R (Itr i (j - i).toNat) H1) w fun F μ S H2 as xs r1 hx p => ?_
  unfold range2D at p
  split at p
  · rename_i i j
    obtain ⟨z, p⟩ := p.chkB
    rw [Bool.and_eq_true] at z
    have z1 : -(2 ^ 62) ≤ i ∧ i < 2 ^ 62 := of_decide_eq_true z.1
    have z2 : -(2 ^ 62) ≤ j ∧ j < 2 ^ 62 := of_decide_eq_true z.2
    obtain ⟨v, u, rfl, h, h2⟩ := Reps.two hx
    exact ⟨i, j, by rw [h.intI, h2.intI], ⟨z1.1, z1.2, z2.1, z2.2⟩, p.at r1 _ fixed_range⟩
  · exact p.elim
theorem rdI_range3 {f : MA} (w : rdI K W c (iB range3D f) σ H R) : iRng3 (rdA K W c f) σ H R := by
  refine rdI_B (r := fun vs H1 R => ∃ (i j c : Int) (n : Nat), vs = [.int i, .int j, .int c] ∧ RgC i j c n ∧ R (Itc i c n) H1) w fun F μ S H2 as xs r1 hx p => ?_
  unfold range3D at p
  split at p
  · rename_i i j k
    obtain ⟨z, p2⟩ := p.chkB
    rw [Bool.and_eq_true, Bool.and_eq_true] at z
    have z1 : -(2 ^ 62) ≤ i ∧ i < 2 ^ 62 := of_decide_eq_true z.1
    have z2 : -(2 ^ 62) ≤ j ∧ j < 2 ^ 62 := of_decide_eq_true z.2.1
    have z3 : k = -1 := of_decide_eq_true z.2.2
    obtain ⟨v, r, rfl, h, hr⟩ := hx.consI
    obtain ⟨u, t, rfl, h2, h3⟩ := Reps.two hr
    exact ⟨i, j, -1, (i - j).toNat, by rw [h.intI, h2.intI, h3.intI, z3], RgC.neg z1.1 z1.2 z2.1 z2.2, p2.at r1 _ fixed_down⟩
  · exact p.elim
theorem rdI_enum {f : MA} (w : rdI K W c (iB enumD f) σ H R) : iEnumK K (rdA K W c f) σ H R := by
  refine rdI_B (r := fun vs H1 R => ∃ k a xs, vs = [.ref a] ∧ SqK K k H1 a xs ∧ R (ItE K k a) H1) w fun F μ S H2 as xs r1 hx p => ?_
  unfold enumD at p
  split at p
  · rename_i d
    obtain ⟨xs, e, p⟩ := p.ofOB
    obtain ⟨v, rfl, h⟩ := Reps.one hx
    obtain ⟨k, a, rfl, q⟩ := still_sq h e
    obtain ⟨vs, _, q2⟩ := q.now
    exact ⟨k, a, vs, rfl, q2, p.at r1 _ (fixed_enum q)⟩
  · exact p.elim
theorem rdI_zip {f : MA} (w : rdI K W c (iB zip2D f) σ H R) : iZipK K (rdA K W c f) σ H R := by
  refine rdI_B (r := fun vs H1 R => ∃ k1 k2 a b xs ys, vs = [.ref a, .ref b] ∧ SqK K k1 H1 a xs ∧ SqK K k2 H1 b ys ∧ R (ItZ K k1 k2 a b) H1) w fun F μ S H2 as xs r1 hx p => ?_
  unfold zip2D at p
  split at p
  · rename_i n e
    obtain ⟨xs, e1, p⟩ := p.items'
    obtain ⟨ys, e2, p⟩ := p.ofOB
    obtain ⟨v, u, rfl, h, h2⟩ := Reps.two hx
    obtain ⟨k2, a2, rfl, q2⟩ := still_sq h2 e2
    obtain ⟨us, _, t2⟩ := q2.now
    obtain ⟨a, rfl, hn⟩ := h.locI
    obtain ⟨a', vs, e3, ha, rs⟩ := r1.list h e1
    cases e3
    exact ⟨.l, k2, a, a2, vs, us, rfl, SqL.of ha, t2, p.at r1 _ ⟨a, a2, k2, hn, q2, rfl⟩⟩
  · rename_i d e _
    unfold zip2F at p
    obtain ⟨xs, e1, p⟩ := p.ofOB
    obtain ⟨ys, e2, p⟩ := p.ofOB
    obtain ⟨v, u, rfl, h, h2⟩ := Reps.two hx
    obtain ⟨k, a, rfl, q⟩ := still_sq h e1
    obtain ⟨k2, a2, rfl, q2⟩ := still_sq h2 e2
    obtain ⟨vs, _, t1⟩ := q.now
    obtain ⟨us, _, t2⟩ := q2.now
    exact ⟨k, k2, a, a2, vs, us, rfl, t1, t2, p.at r1 _ (fixed_zip q q2)⟩
  · exact p.elim
end
/-! ### for, while -/
section
variable {K : PySem.W.Frag} {W : XK} {c : Call}
theorem post.bind0 {α β : Type} {F0 : Fz} {μ0 : List Addr} {H0 : Hp} {S : Sto} {x : M α} {f : α → M β} {P : β → Fz → List Addr → Sto → Hp → Prop} (h : post K F0 μ0 H0 (M.bind x f S) P W) : post K F0 μ0 H0 (x S) (fun a _ _ S1 _ => post K F0 μ0 H0 (f a S1) P W) W := by
  unfold M.bind at h
  cases q : x S with
  | ok a S1 =>
    rw [q] at h
    exact fun F' μ' H' e r => h
  | exc x S' =>
    rw [q] at h
    exact h
  | bad =>
    rw [q] at h
    exact h
def gSkip : MG := fun _ _ _ => bad
/-- the rest of a for -/
def forK (g : MG) (b : MS) (c : Call) (k : Env → M Fl) (fl : Fl) : M Fl := match fl with
  | .nx ρ1 => k ρ1
  | .ct ρ1 => k ρ1
  | .bk ρ1 => M.pure (.nx ρ1)
  | .rt d => M.pure (.rt d)
/-- one turn -/
theorem for_turn {F : Fz} {μ : List Addr} {H : Hp} {S : Sto} {ρ : Env} {σ : L2.St} {g : MG} {b : MS} {ts : List Nat} {D : Ends} {k : Env → M Fl} {d : MI.D} {x : V} {N : L2.St → Hp → Prop} (R : Rl K F μ H S) (s : SlR K F μ H ρ σ) (hx : Rep K F μ H d x)
    (p : post K F μ H (M.bind (forTurn g b c d ρ) (forK g b c k) S) (fun fl F' μ' _ H' => flow K D fl F' μ' H') W)
    (hN : ∀ F' μ' S' H' ρ' σ', Ext F μ H F' μ' H' → Rl K F' μ' H' S' → SlR K F' μ' H' ρ' σ' → post K F' μ' H' (k ρ' S') (fun fl F' μ' _ H' => flow K D fl F' μ' H') W → N σ' H') :
    rdG K W c ts g x σ H fun σ2 H2 => rdS K W c b { D with nx := N, ct := N, bk := D.nx } σ2 H2 := by
  unfold forTurn at p
  rw [bind_assoc'] at p
  refine ⟨F, μ, S, ρ, d, R, s, hx, p.bind.imp fun ρ1 F1 μ1 S1 H1 e1 r1 p1 σ1 s1 _ => ?_⟩
  refine ⟨F1, μ1, S1, ρ1, r1, s1, p1.bind.imp fun fl F2 μ2 S2 H2 e2 r2 p2 => ?_⟩
  have e := e1.trans e2
  cases fl with
  | nx ρ2 => exact fun σ2 s2 => hN F2 μ2 S2 H2 ρ2 σ2 e r2 s2 p2
  | ct ρ2 => exact fun σ2 s2 => hN F2 μ2 S2 H2 ρ2 σ2 e r2 s2 p2
  | bk ρ2 => exact p2.at r2
  | rt d => exact p2.at r2
theorem forFix_cons (g : MG) (b : MS) (c : Call) (x : MI.D) (xs : List MI.D) (ρ : Env) : forFix g b c (x :: xs) ρ = M.bind (forTurn g b c x ρ) (forK g b c (forFix g b c xs)) := by
  show M.bind _ _ = M.bind _ _
  congr 1
theorem rdS_for {f : MI} {g : MG} {b : MS} {ts : List Nat} {D : Ends} {σ : L2.St} {H : Hp} (w : rdS K W c (sFor f g b) D σ H) : tFor (rdI K W c f) (rdG K W c ts g) (rdS K W c b) D σ H := by
  obtain ⟨F, μ, S, ρ, r0, s0, p⟩ := w
  refine ⟨F, μ, S, ρ, r0, s0, p.bind.imp fun s F1 μ1 S1 H1 e1 r1 p1 J hJ => ?_⟩
  have s1 := s0.ext e1
  cases s with
  | fix xs =>
    have hJ : Fixed K F1 μ1 H1 J xs := hJ
    let Pv : Nat → L2.St → Hp → Prop := fun i σ H => ∃ F μ S ρ, Rl K F μ H S ∧ SlR K F μ H ρ σ ∧ Mono F1 μ1 H1 F μ H ∧ post K F μ H (forFix g b c (xs.drop i) ρ S) (fun fl F' μ' _ H' => flow K D fl F' μ' H') W
    refine ⟨fun i m σ H => m = xs.length - i ∧ i ≤ xs.length ∧ Pv i σ H, ⟨xs.length, rfl, Nat.zero_le _, F1, μ1, S1, ρ, r1, s1, Mono.ref, p1⟩, ?_⟩
    rintro i m σ2 H2 ⟨rfl, hi, F2, μ2, S2, ρ2, r2, s2, m2, p2⟩
    obtain ⟨j1, j2, j3⟩ := hJ F2 μ2 H2 m2
    by_cases hlt : i < xs.length
    · refine .inr ⟨j1 i hlt, Pv (i + 1), fun σ' H' q => ⟨xs.length - (i + 1), by omega, rfl, hlt, q⟩, fun x H' y => ?_⟩
      have hd : xs[i]? = some xs[i] := List.getElem?_eq_getElem hlt
      obtain ⟨F3, e3, r3, x3⟩ := j3 i x H' xs[i] S2 y hd r2
      rw [List.drop_eq_getElem_cons hlt, forFix_cons] at p2
      exact for_turn r3 (s2.ext e3) x3 (p2.ext e3) fun F' μ' S' H' ρ' σ' e' r' s' p' => ⟨F', μ', S', ρ', r', s', (m2.trans e3.mono).trans e'.mono, p'⟩
    · have e : i = xs.length := by omega
      subst e
      rw [List.drop_length] at p2
      exact .inl ⟨j2, p2.at r2 σ2 s2⟩
  | zlive n ys => exact p1.elim
  | live n =>
    obtain ⟨a, hn, rfl⟩ := (hJ : ∃ a, μ1[n]? = some a ∧ J = Itl K a)
    let Pv : Nat → Nat → L2.St → Hp → Prop := fun m i σ H => ∃ F μ S ρ, Rl K F μ H S ∧ SlR K F μ H ρ σ ∧ μ[n]? = some a ∧ post K F μ H (forLive n g b c m i ρ S) (fun fl F' μ' _ H' => flow K D fl F' μ' H') W
    refine ⟨fun i m σ H => Pv m i σ H, ⟨turns, F1, μ1, S1, ρ, r1, s1, hn, p1⟩, ?_⟩
    rintro i m σ2 H2 ⟨F2, μ2, S2, ρ2, r2, s2, n2, p2⟩
    cases m with
    | zero => exact p2.elim
    | succ m =>
      have p2 : post K F2 μ2 H2 (M.bind (litems (.loc n)) (fun xs => match xs[i]? with | none => M.pure (.nx ρ2) | some x => M.bind (forTurn g b c x ρ2) (forK g b c (forLive n g b c m (i + 1)))) S2) _ W := p2
      obtain ⟨xs, ex, p2⟩ := p2.items'
      obtain ⟨a', vs, e2, ha, rs⟩ := r2.list (d := .loc n) (v := .ref a) (by unfold Rep; exact ⟨a, rfl, n2⟩) ex
      cases e2
      cases hx : xs[i]? with
      | none =>
        rw [hx] at p2
        refine .inl ⟨⟨vs, SqL.of ha, ?_⟩, p2.at r2 σ2 s2⟩
        rw [rs.length]
        exact List.getElem?_eq_none_iff.mp hx
      | some x =>
        rw [hx] at p2
        obtain ⟨v, hv, rv⟩ := rs.get hx
        refine .inr ⟨⟨vs, v, SqL.of ha, hv⟩, fun σ H => Pv m (i + 1) σ H, fun σ' H' q => ⟨m, Nat.lt_succ_self _, q⟩, fun y H' yy => ?_⟩
        obtain ⟨e1, yy⟩ := yy
        subst e1
        have e2 := yy vs (SqL.of ha)
        rw [hv] at e2
        cases e2
        exact for_turn r2 s2 rv p2 fun F' μ' S' H' ρ' σ' e' r' s' p' => ⟨F', μ', S', ρ', r', s', e'.pre _ _ n2, p'⟩
theorem rdS_while {t : MT} {b : MS} {D : Ends} {σ : L2.St} {H : Hp} (w : rdS K W c (sWhile t b) D σ H) : tWhile (rdT K W c t) (rdS K W c b) D σ H := by
  obtain ⟨F, μ, S, ρ, r0, s0, p⟩ := w
  let Pv : Nat → L2.St → Hp → Prop := fun m σ H => ∃ F μ S ρ, Rl K F μ H S ∧ SlR K F μ H ρ σ ∧ post K F μ H (whileN t b c m ρ S) (fun fl F' μ' _ H' => flow K D fl F' μ' H') W
  refine ⟨Pv, ⟨turns, F, μ, S, ρ, r0, s0, p⟩, ?_⟩
  rintro m σ2 H2 ⟨F2, μ2, S2, ρ2, r2, s2, p2⟩
  cases m with
  | zero => exact p2.elim
  | succ m =>
    have p2 : post K F2 μ2 H2 (M.bind (t c ρ2) (fun r => match r with | false => M.pure (.nx ρ2) | true => M.bind (b c ρ2) (forK gSkip b c (whileN t b c m))) S2) _ W := p2
    refine ⟨F2, μ2, S2, ρ2, r2, s2, p2.bind.imp fun r F3 μ3 S3 H3 e3 r3 p3 => ?_⟩
    have s3 := s2.ext e3
    cases r with
    | false => exact p3.at r3 σ2 s3
    | true =>
      simp only [if_true]
      refine ⟨Pv m, fun σ' H' q => ⟨m, Nat.lt_succ_self _, q⟩, F3, μ3, S3, ρ2, r3, s3, p3.bind.imp fun fl F4 μ4 S4 H4 e4 r4 p4 => ?_⟩
      cases fl with
      | nx ρ4 => exact fun σ4 s4 => ⟨F4, μ4, S4, ρ4, r4, s4, p4⟩
      | ct ρ4 => exact fun σ4 s4 => ⟨F4, μ4, S4, ρ4, r4, s4, p4⟩
      | bk ρ4 => exact p4.at r4
      | rt d => exact p4.at r4
end
end MI

/-! MI12: comprehensions. -/
namespace MI
open PySem PySem.Spec PyProof.Rows L2
/-- nothing may leave -/
abbrev W0 : XK := fun _ _ _ => False
section
variable {K : PySem.W.Frag} {W : XK} {c : Call}
theorem post.calm {α : Type} {F0 : Fz} {μ0 : List Addr} {H0 : Hp} {S : Sto} {x : M α} {P : α → Fz → List Addr → Sto → Hp → Prop} (h : post K F0 μ0 H0 (MI.calm x S) P W) : post K F0 μ0 H0 (x S) P W0 := by
  unfold MI.calm at h
  cases q : x S with
  | ok a S1 => rw [q] at h; exact h
  | exc e S1 => rw [q] at h; exact h.elim
  | bad => rw [q] at h; exact h.elim
/-- the new list -/
structure DAt (D : Addr) (F : Fz) (μ : List Addr) (H : Hp) (vs : List V) : Prop where
  nF : ¬ F D
  nμ : D ∉ μ
  at_ : H D = some (.lst vs)
theorem DAt.ext {D : Addr} {F F' : Fz} {μ μ' : List Addr} {H H' : Hp} {vs : List V} (d : DAt D F μ H vs) (e : Ext F μ H F' μ' H') : DAt D F' μ' H' vs := by
  have hn : H D ≠ none := by rw [d.at_]; simp
  exact ⟨fun q => (e.newF D q).elim d.nF hn, fun q => (e.new D q).elim d.nμ hn, e.keep D _ d.at_ d.nμ⟩
/-- the base of a comprehension: its start, the state in which what is walked stood, the new list -/
structure CB where
  F0 : Fz
  μ0 : List Addr
  H0 : Hp
  F1 : Fz
  μ1 : List Addr
  H1 : Hp
  D : Addr
structure CAt (K : PySem.W.Frag) (B : CB) (F : Fz) (μ : List Addr) (H : Hp) (S : Sto) (acc : List MI.D) (vs : List V) : Prop where
  h0 : B.H0 B.D = none
  e : Ext B.F0 B.μ0 B.H0 F μ H
  m : Mono B.F1 B.μ1 B.H1 F μ H
  r : Rl K F μ H S
  d : DAt B.D F μ H vs
  a : Reps K F μ H acc vs
theorem CAt.ext {B : CB} {F F' : Fz} {μ μ' : List Addr} {H H' : Hp} {S S' : Sto} {acc : List MI.D} {vs : List V} (q : CAt K B F μ H S acc vs) (e : Ext F μ H F' μ' H') (r : Rl K F' μ' H' S') : CAt K B F' μ' H' S' acc vs :=
  ⟨q.h0, q.e.trans e, q.m.trans e.mono, r, q.d.ext e, q.a.ext e⟩
/-- within a comprehension: k goes on with the items so far -/
def CI (K : PySem.W.Frag) (B : CB) {β : Type} (k : List MI.D → M β) (P : β → Fz → List Addr → Sto → Hp → Prop) (W : XK) (H : Hp) : Prop :=
  ∃ F μ S acc vs, CAt K B F μ H S acc vs ∧ post K B.F0 B.μ0 B.H0 (k acc S) P W
theorem DAt.upd {D : Addr} {F : Fz} {μ : List Addr} {H : Hp} {S : Sto} {vs ws : List V} (d : DAt D F μ H vs) (R : Rl K F μ H S) : Mono F μ H F μ (upd H D (.lst ws)) ∧ DAt D F μ (upd H D (.lst ws)) ws ∧ Rl K F μ (upd H D (.lst ws)) S := by
  have m : Mono F μ H F μ (L2.upd H D (.lst ws)) := ⟨fun _ _ h => h, fun _ h => h, fun {a o} hf h => by rw [upd_ne (show a ≠ D from fun q => d.nF (q ▸ hf))]; exact h⟩
  refine ⟨m, ⟨d.nF, d.nμ, upd_same⟩, ⟨fun a h => ?_, R.len, R.nd, R.nf, fun n o a h1 h2 => ?_⟩⟩
  · rw [upd_ne (show a ≠ D from fun q => d.nF (q ▸ h))]; exact R.fz a h
  · obtain ⟨x, x1, x2⟩ := R.obj n o a h1 h2
    refine ⟨x, ?_, x2.mono m⟩
    rw [upd_ne (show a ≠ D from fun q => d.nμ (q ▸ List.mem_iff_getElem?.mpr ⟨n, h2⟩))]
    exact x1
theorem ext_upd {F0 F : Fz} {μ0 μ : List Addr} {H0 H : Hp} {D : Addr} {x : HO} (e : Ext F0 μ0 H0 F μ H) (h0 : H0 D = none) : Ext F0 μ0 H0 F μ (upd H D x) where
  pre := e.pre
  new := e.new
  frz := e.frz
  newF := e.newF
  keep := fun a o h n => by
    rw [upd_ne (fun q => by rw [q, h0] at h; cases h)]
    exact e.keep a o h n
  there := fun a h => by
    by_cases q : a = D
    · rw [q, upd_same]; simp
    · rw [upd_ne q]; exact e.there a h
  nf := e.nf
theorem CAt.put {B : CB} {F : Fz} {μ : List Addr} {H : Hp} {S : Sto} {acc : List MI.D} {vs : List V} {y : MI.D} {v : V} (q : CAt K B F μ H S acc vs) (hv : Rep K F μ H y v) : CAt K B F μ (upd H B.D (.lst (vs ++ [v]))) S (acc ++ [y]) (vs ++ [v]) := by
  obtain ⟨m, d2, r2⟩ := q.d.upd (ws := vs ++ [v]) q.r
  exact ⟨q.h0, ext_upd q.e q.h0, q.m.trans m, r2, d2, (q.a.append (Reps.cons hv Reps.nil)).mono m⟩
/-- the item is read and put behind -/
theorem comp_put {B : CB} {β : Type} {k : List MI.D → M β} {P : β → Fz → List Addr → Sto → Hp → Prop} {W' : XK} {F : Fz} {μ : List Addr} {H : Hp} {S : Sto} {acc : List MI.D} {vs : List V} {ρ : Env} {σ : L2.St} {e : ME}
    (q : CAt K B F μ H S acc vs) (s : SlR K F μ H ρ σ)
    (p : post K B.F0 B.μ0 B.H0 (M.bind (M.bind (e c ρ) fun y => M.bind (chk (decide (acc.length < sizeLine))) fun _ => M.pure (acc ++ [y])) k S) P W') :
    rdE K W' c e σ H fun y H4 => ∃ acc, H4 B.D = some (.lst acc) ∧ acc.length < sizeLine ∧ CI K B k P W' (upd H4 B.D (.lst (acc ++ [y]))) := by
  rw [bind_assoc'] at p
  refine ⟨F, μ, S, ρ, q.r, s, (p.bind0.ext q.e).imp fun y F1 μ1 S1 H1 e1 r1 p1 v hv => ?_⟩
  rw [bind_assoc'] at p1
  obtain ⟨z, p1⟩ := p1.chkB
  have q1 := q.ext e1 r1
  exact ⟨vs, q1.d.at_, by rw [q1.a.length]; exact of_decide_eq_true z, F1, μ1, S1, acc ++ [y], vs ++ [v], q1.put hv, p1⟩
/-- the test and what follows -/
theorem comp_test {B : CB} {β : Type} {k : List MI.D → M β} {P : β → Fz → List Addr → Sto → Hp → Prop} {W' : XK} {F : Fz} {μ : List Addr} {H : Hp} {S : Sto} {acc : List MI.D} {vs : List V} {ρ : Env} {σ : L2.St} {t : MT} {z : M (List MI.D)} {T : Hp → Prop}
    (q : CAt K B F μ H S acc vs) (s : SlR K F μ H ρ σ)
    (p : post K B.F0 B.μ0 B.H0 (M.bind (M.bind (t c ρ) fun b => match b with | true => z | false => M.pure acc) k S) P W')
    (hz : ∀ F' μ' H' S', CAt K B F' μ' H' S' acc vs → SlR K F' μ' H' ρ σ → post K B.F0 B.μ0 B.H0 (M.bind z k S') P W' → T H') :
    rdT K W' c t σ H fun b H3 => if b = true then T H3 else CI K B k P W' H3 := by
  rw [bind_assoc'] at p
  refine ⟨F, μ, S, ρ, q.r, s, (p.bind0.ext q.e).imp fun b F1 μ1 S1 H1 e1 r1 p1 => ?_⟩
  have q1 := q.ext e1 r1
  cases b with
  | true =>
    simp only [if_true]
    exact hz F1 μ1 H1 S1 q1 (s.ext e1) p1
  | false => exact ⟨F1, μ1, S1, acc, vs, q1, p1⟩
/-- the target, the test and what follows -/
theorem comp_tgt {B : CB} {β : Type} {k : List MI.D → M β} {P : β → Fz → List Addr → Sto → Hp → Prop} {F : Fz} {μ : List Addr} {H : Hp} {S : Sto} {acc : List MI.D} {vs : List V} {ρ : Env} {σ : L2.St} {g : MG} {t : MT} {z : Env → M (List MI.D)} {x : MI.D} {v : V} {own ts : List Nat} {W' : XK} {T : L2.St → Hp → Prop}
    (q : CAt K B F μ H S acc vs) (s : SlR K F μ H ρ σ) (hx : Rep K F μ H x v) (hts : ∀ i ∈ ts, i ∈ own)
    (p : post K B.F0 B.μ0 B.H0 (M.bind (M.bind (g c x ρ) fun ρ2 => M.bind (t c ρ2) fun b => match b with | true => z ρ2 | false => M.pure acc) k S) P W')
    (hz : ∀ F' μ' H' S' ρ' σ', CAt K B F' μ' H' S' acc vs → SlR K F' μ' H' ρ' σ' → L2.wipe σ' own = L2.wipe σ own → post K B.F0 B.μ0 B.H0 (M.bind (z ρ') k S') P W' → T σ' H') :
    rdG K W' c ts g v σ H fun σ2 H2 => L2.wipe σ2 own = L2.wipe σ own ∧ rdT K W' c t σ2 H2 fun b H3 => if b = true then T σ2 H3 else CI K B k P W' H3 := by
  rw [bind_assoc'] at p
  refine ⟨F, μ, S, ρ, x, q.r, s, hx, (p.bind0.ext q.e).imp fun ρ1 F1 μ1 S1 H1 e1 r1 p1 σ1 s1 hw => ⟨hw own hts, ?_⟩⟩
  exact comp_test (z := z ρ1) (q.ext e1 r1) s1 p1 fun F' μ' H' S' q' s' p' => hz F' μ' H' S' ρ1 σ1 q' s' (hw own hts) p'
/-- behind a calm turn the rest goes on under W -/
theorem post.turn {α β : Type} {F0 : Fz} {μ0 : List Addr} {H0 : Hp} {S : Sto} {x : M α} {k : α → M β} {P : β → Fz → List Addr → Sto → Hp → Prop} (h : post K F0 μ0 H0 (M.bind (MI.calm x) k S) P W) :
    post K F0 μ0 H0 (M.bind x (fun a => M.pure a) S) (fun a _ _ S1 _ => post K F0 μ0 H0 (k a S1) P W) W0 := by
  have h1 := h.bind0.calm
  have e : M.bind x (fun a => M.pure a) S = x S := by
    unfold M.bind
    cases x S <;> rfl
  rw [e]
  exact h1
theorem CI.go {B : CB} {β : Type} {k : List MI.D → M β} {P : β → Fz → List Addr → Sto → Hp → Prop} {H : Hp}
    (q : CI K B (fun a => M.pure a) (fun a _ _ S1 _ => post K B.F0 B.μ0 B.H0 (k a S1) P W) W0 H) : CI K B k P W H := by
  obtain ⟨F, μ, S, acc, vs, q, p⟩ := q
  exact ⟨F, μ, S, acc, vs, q, p.atE q.e q.r⟩
theorem compFix_cons (g : MG) (t : MT) (e : ME) (c : Call) (ρ : Env) (x : D) (xs acc : List D) : compFix g t e c ρ (x :: xs) acc = M.bind (compTurn g t e c ρ x acc) (compFix g t e c ρ xs) := rfl
/-- one turn, behind the walk's step -/
theorem comp_one {B : CB} {P : List MI.D → Fz → List Addr → Sto → Hp → Prop} {W' : XK} {ρ : Env} {σ : L2.St} {g : MG} {t : MT} {e : ME} {own ts : List Nat} {k : List MI.D → M (List MI.D)} {F : Fz} {μ : List Addr} {H : Hp} {S : Sto} {acc : List MI.D} {vs : List V} {x : MI.D} {v : V}
    {w : L2.St} (hw : L2.wipe σ own = w) (hts : ∀ i ∈ ts, i ∈ own) (s : SlR K F μ H ρ σ) (q : CAt K B F μ H S acc vs) (hx : Rep K F μ H x v) (p : post K B.F0 B.μ0 B.H0 (M.bind (compTurn g t e c ρ x acc) k S) P W') :
    rdG K W0 c ts g v σ H fun σ2 H2 => L2.wipe σ2 own = w ∧ rdT K W0 c t σ2 H2 fun b H3 => if b = true then rdE K W0 c e σ2 H3 (fun y H4 => ∃ acc, H4 B.D = some (.lst acc) ∧ acc.length < sizeLine ∧ CI K B k P W' (upd H4 B.D (.lst (acc ++ [y])))) else CI K B k P W' H3 := by
  have p3 := p.turn
  have key := comp_tgt (T := fun σ2 H3 => rdE K W0 c e σ2 H3 fun y H4 => ∃ acc, H4 B.D = some (.lst acc) ∧ acc.length < sizeLine ∧ CI K B (fun a => M.pure a) (fun a _ _ S1 _ => post K B.F0 B.μ0 B.H0 (k a S1) P W') W0 (upd H4 B.D (.lst (acc ++ [y]))))
    q s hx hts p3 fun F' μ' H' S' ρ' σ' q' s' _ p' => comp_put q' s' p'
  obtain ⟨F4, μ4, S4, ρ4, d4, h1, h2, h3, h4⟩ := key
  refine ⟨F4, μ4, S4, ρ4, d4, h1, h2, h3, h4.imp fun ρ5 F5 μ5 S5 H5 e5 r5 k5 σ5 s5 w5 => ?_⟩
  obtain ⟨w6, F6, μ6, S6, ρ6, h5, h6, h7⟩ := k5 σ5 s5 w5
  refine ⟨w6.trans hw, F6, μ6, S6, ρ6, h5, h6, h7.imp fun b F7 μ7 S7 H7 e7 r7 k7 => ?_⟩
  cases b with
  | true =>
    simp only [if_true] at k7 ⊢
    obtain ⟨F8, μ8, S8, ρ8, h8, h9, h10⟩ := k7
    exact ⟨F8, μ8, S8, ρ8, h8, h9, h10.imp fun y F9 μ9 S9 H9 e9 r9 k9 v hv => let ⟨a, a1, a2, a3⟩ := k9 v hv; ⟨a, a1, a2, a3.go⟩⟩
  | false =>
    simp only [Bool.false_eq_true, if_false] at k7 ⊢
    exact k7.go
theorem SlR.mono {F F' : Fz} {μ μ' : List Addr} {H H' : Hp} {ρ : Env} {σ : L2.St} (s : SlR K F μ H ρ σ) (m : Mono F μ H F' μ' H') : SlR K F' μ' H' ρ σ := ⟨s.len, fun j d h => let ⟨v, a, b⟩ := s.get j d h; ⟨v, a, b.mono m⟩⟩
/-- a loop within a comprehension: N is reached behind it -/
theorem comp_fix {B : CB} {P : List MI.D → Fz → List Addr → Sto → Hp → Prop} {W' : XK} {J : It} {xs : List MI.D} {ρ : Env} {σ : L2.St} {g : MG} {t : MT} {e : ME} {own ts : List Nat} {N : Hp → Prop} {F : Fz} {μ : List Addr} {H : Hp} {S : Sto} {acc : List MI.D} {vs : List V}
    {w : L2.St} (hw : L2.wipe σ own = w) (hts : ∀ i ∈ ts, i ∈ own) (hJ : Fixed K B.F1 B.μ1 B.H1 J xs) (s : SlR K B.F1 B.μ1 B.H1 ρ σ) (q : CAt K B F μ H S acc vs) (p : post K B.F0 B.μ0 B.H0 (compFix g t e c ρ xs acc S) P W')
    (hN : ∀ F μ S acc vs H, CAt K B F μ H S acc vs → P acc F μ S H → N H) :
    ∃ Wi : Nat → Nat → Hp → Prop, (∃ m, Wi 0 m H) ∧ ∀ i m H, Wi i m H → (J.stop i H ∧ N H) ∨ (J.go i H ∧ ∃ Nx : Hp → Prop, (∀ H', Nx H' → ∃ m', m' < m ∧ Wi (i + 1) m' H') ∧ ∀ x H', J.yld i H x H' →
      rdG K W0 c ts g x σ H' fun σ2 H2 => L2.wipe σ2 own = w ∧ rdT K W0 c t σ2 H2 fun b H3 => if b = true then rdE K W0 c e σ2 H3 (fun y H4 => ∃ acc, H4 B.D = some (.lst acc) ∧ acc.length < sizeLine ∧ Nx (upd H4 B.D (.lst (acc ++ [y])))) else Nx H3) := by
  refine ⟨fun i m H => m = xs.length - i ∧ i ≤ xs.length ∧ CI K B (compFix g t e c ρ (xs.drop i)) P W' H, ⟨xs.length, rfl, Nat.zero_le _, F, μ, S, acc, vs, q, p⟩, ?_⟩
  rintro i m H2 ⟨rfl, hi, F2, μ2, S2, acc2, vs2, q2, p2⟩
  obtain ⟨j1, j2, j3⟩ := hJ F2 μ2 H2 q2.m
  by_cases hlt : i < xs.length
  · rw [List.drop_eq_getElem_cons hlt, compFix_cons] at p2
    refine .inr ⟨j1 i hlt, CI K B (compFix g t e c ρ (xs.drop (i + 1))) P W', fun H' z => ⟨xs.length - (i + 1), by omega, rfl, hlt, z⟩, fun x H' y => ?_⟩
    obtain ⟨F3, e3, r3, x3⟩ := j3 i x H' xs[i] S2 y (List.getElem?_eq_getElem hlt) q2.r
    exact comp_one hw hts ((s.mono q2.m).ext e3) (q2.ext e3 r3) x3 p2
  · have e : i = xs.length := by omega
    subst e
    rw [List.drop_length] at p2
    exact .inl ⟨j2, hN F2 μ2 S2 acc2 vs2 H2 q2 (p2.atE q2.e q2.r)⟩
theorem CAt.start {F0 F1 : Fz} {μ0 μ1 : List Addr} {H0 H1 : Hp} {S1 : Sto} {D : Addr} (e : Ext F0 μ0 H0 F1 μ1 H1) (r : Rl K F1 μ1 H1 S1) (hD : H1 D = none) : CAt K ⟨F0, μ0, H0, F1, μ1, H1, D⟩ F1 μ1 (upd H1 D (.lst [])) S1 [] [] := by
  have h0 : H0 D = none := Classical.byContradiction fun q => e.there D q hD
  have m : Mono F1 μ1 H1 F1 μ1 (L2.upd H1 D (.lst [])) := ⟨fun _ _ h => h, fun _ h => h, fun {a o} hf h => by rw [upd_ne (show a ≠ D from fun q => by rw [q, hD] at h; cases h)]; exact h⟩
  refine ⟨h0, ext_upd e h0, m, ⟨fun a h => ?_, r.len, r.nd, r.nf, fun n o a h1 h2 => ?_⟩, ⟨r.freshF hD, r.fresh hD, upd_same⟩, Reps.nil⟩
  · rw [upd_ne (show a ≠ D from fun q => r.fz a h (q ▸ hD))]; exact r.fz a h
  · obtain ⟨x, x1, x2⟩ := r.obj n o a h1 h2
    refine ⟨x, ?_, x2.mono m⟩
    rw [upd_ne (show a ≠ D from fun q => by rw [q, hD] at x1; cases x1)]
    exact x1
theorem rdL_comp {f : MI} {g : MG} {t : MT} {e : ME} {own ts : List Nat} {σ : L2.St} {H : Hp} {Q : VK} (hts : ∀ i ∈ ts, i ∈ own) (w : rdL K W c (lComp f own g t e) σ H Q) : tLc (rdI K W c f) (rdG K W0 c ts g) (rdT K W0 c t) (rdE K W0 c e) own σ H Q := by
  obtain ⟨F, μ, S, ρ, r0, s0, p⟩ := w
  refine ⟨F, μ, S, ρ, r0, s0, p.bind0.imp fun z F1 μ1 S1 H1 e1 r1 p1 J hJ D hD => ?_⟩
  have s1 := (s0.ext e1).wipe own
  have q0 := CAt.start e1 r1 hD
  cases z with
  | fix xs =>
    exact comp_fix (B := ⟨F, μ, H, F1, μ1, H1, D⟩) (wipe_twice own σ) hts hJ s1 q0 p1 fun F' μ' S' acc vs H' q' p' => p' D vs q'.h0 q'.d.at_ q'.d.nF q'.d.nμ q'.a
  | live n =>
    obtain ⟨a, hn, rfl⟩ := (hJ : ∃ a, μ1[n]? = some a ∧ J = Itl K a)
    refine ⟨fun i m H' => CI K ⟨F, μ, H, F1, μ1, H1, D⟩ (compLive n g t e c (wipeE ρ own) m i) (fun ds F' μ' _ H' => ∀ p vs, H p = none → H' p = some (.lst vs) → ¬ F' p → p ∉ μ' → Reps K F' μ' H' ds vs → Q (.ref p) H') W H', ⟨turns, F1, μ1, S1, [], [], q0, p1⟩, ?_⟩
    rintro i m H2 ⟨F2, μ2, S2, acc2, vs2, q2, p2⟩
    have n2 : μ2[n]? = some a := q2.m.pre _ _ hn
    cases m with
    | zero => exact p2.elim
    | succ m =>
      have p2 : post K F μ H (M.bind (litems (.loc n)) (fun xs => match xs[i]? with | none => M.pure acc2 | some x => M.bind (compTurn g t e c (wipeE ρ own) x acc2) (compLive n g t e c (wipeE ρ own) m (i + 1))) S2) _ W := p2
      obtain ⟨xs, ex, p2⟩ := p2.items'
      obtain ⟨a', vs, e2, ha, rs⟩ := q2.r.list (d := .loc n) (v := .ref a) (by unfold Rep; exact ⟨a, rfl, n2⟩) ex
      cases e2
      cases hx : xs[i]? with
      | none =>
        rw [hx] at p2
        refine .inl ⟨⟨vs, SqL.of ha, ?_⟩, p2.atE q2.e q2.r D vs2 q2.h0 q2.d.at_ q2.d.nF q2.d.nμ q2.a⟩
        rw [rs.length]
        exact List.getElem?_eq_none_iff.mp hx
      | some x =>
        rw [hx] at p2
        obtain ⟨v, hv, rv⟩ := rs.get hx
        refine .inr ⟨⟨vs, v, SqL.of ha, hv⟩, _, fun H' z => ⟨m, Nat.lt_succ_self _, z⟩, fun y H' yy => ?_⟩
        obtain ⟨e1, yy⟩ := yy
        subst e1
        have e2 := yy vs (SqL.of ha)
        rw [hv] at e2
        cases e2
        exact comp_one (wipe_twice own σ) hts (s1.mono q2.m) q2 rv p2
  | zlive n ys =>
    obtain ⟨a, b, k, hn, hb, rfl⟩ := (hJ : ∃ a b k, μ1[n]? = some a ∧ SqF K k F1 μ1 H1 b ys ∧ J = ItZ K .l k a b)
    refine ⟨fun i m H' => CI K ⟨F, μ, H, F1, μ1, H1, D⟩ (compZ n ys g t e c (wipeE ρ own) m i) (fun ds F' μ' _ H' => ∀ p vs, H p = none → H' p = some (.lst vs) → ¬ F' p → p ∉ μ' → Reps K F' μ' H' ds vs → Q (.ref p) H') W H', ⟨turns, F1, μ1, S1, [], [], q0, p1⟩, ?_⟩
    rintro i m H2 ⟨F2, μ2, S2, acc2, vs2, q2, p2⟩
    have n2 : μ2[n]? = some a := q2.m.pre _ _ hn
    obtain ⟨us, ru, tu⟩ := (hb.mono q2.m).now
    cases m with
    | zero => exact p2.elim
    | succ m =>
      have p2 : post K F μ H (M.bind (litems (.loc n)) (fun xs => match xs[i]?, ys[i]? with | some x, some y => M.bind (compTurn g t e c (wipeE ρ own) (.tup [x, y]) acc2) (compZ n ys g t e c (wipeE ρ own) m (i + 1)) | _, _ => M.bind (chk (decide (i = min xs.length ys.length))) fun _ => M.pure acc2) S2) _ W := p2
      obtain ⟨xs, ex, p2⟩ := p2.items'
      obtain ⟨a', vs, e2, ha, rs⟩ := q2.r.list (d := .loc n) (v := .ref a) (by unfold Rep; exact ⟨a, rfl, n2⟩) ex
      cases e2
      have fin : post K F μ H (M.bind (chk (decide (i = min xs.length ys.length))) (fun _ => M.pure acc2) S2) (fun ds F' μ' _ H' => ∀ p vs, H p = none → H' p = some (.lst vs) → ¬ F' p → p ∉ μ' → Reps K F' μ' H' ds vs → Q (.ref p) H') W → (ItZ K .l k a b).stop i H2 ∧ Q (.ref D) H2 := fun p2 => by
        obtain ⟨z, p3⟩ := p2.chkB
        have z : i = min xs.length ys.length := of_decide_eq_true z
        exact ⟨⟨vs, us, SqL.of ha, tu, by rw [rs.length, ru.length]; exact z⟩, p3.atE q2.e q2.r D vs2 q2.h0 q2.d.at_ q2.d.nF q2.d.nμ q2.a⟩
      cases hx : xs[i]? with
      | none =>
        rw [hx] at p2
        exact .inl (fin p2)
      | some x =>
        cases hy : ys[i]? with
        | none =>
          rw [hx, hy] at p2
          exact .inl (fin p2)
        | some y =>
          rw [hx, hy] at p2
          obtain ⟨v, hv, rv⟩ := rs.get hx
          obtain ⟨u, hu, rw'⟩ := ru.get hy
          refine .inr ⟨⟨vs, us, v, u, SqL.of ha, tu, hv, hu⟩, _, fun H' z => ⟨m, Nat.lt_succ_self _, z⟩, fun w H' yy => ?_⟩
          obtain ⟨T, v2, u2, rfl, hT, rfl, f1, f2⟩ := yy
          have e2 := f1 vs (SqL.of ha)
          rw [hv] at e2
          cases e2
          have e3 := f2 us tu
          rw [hu] at e3
          cases e3
          obtain ⟨F3, e4, r3, x3⟩ := pair_new q2.r hT rv rw'
          exact comp_one (wipe_twice own σ) hts ((s1.mono q2.m).ext e4) (q2.ext e4 r3) x3 p2
theorem comp2Fix_cons (g : MG) (t : MT) (s2 : MI) (own2 : List Nat) (g2 : MG) (t2 : MT) (e : ME) (c : Call) (ρ : Env) (x : MI.D) (xs acc : List MI.D) : comp2Fix g t s2 own2 g2 t2 e c ρ (x :: xs) acc = M.bind (comp2Turn g t s2 own2 g2 t2 e c ρ x acc) (comp2Fix g t s2 own2 g2 t2 e c ρ xs) := rfl
theorem rdL_comp2 {f f2 : MI} {g g2 : MG} {t t2 : MT} {e : ME} {own ts ts2 : List Nat} {σ : L2.St} {H : Hp} {Q : VK} (hts : ∀ i ∈ ts, i ∈ own) (w : rdL K W c (lComp2 f own g t f2 ts2 g2 t2 e) σ H Q) :
    tLc2 (rdI K W c f) (rdG K W0 c ts g) (rdT K W0 c t) (rdI K W0 c f2) (rdG K W0 c ts2 g2) (rdT K W0 c t2) (rdE K W0 c e) own ts2 σ H Q := by
  obtain ⟨F, μ, S, ρ, r0, s0, p⟩ := w
  refine ⟨F, μ, S, ρ, r0, s0, p.bind0.imp fun z F1 μ1 S1 H1 e1 r1 p1 J hJ D hD => ?_⟩
  have s1 := (s0.ext e1).wipe own
  have q0 := CAt.start e1 r1 hD
  cases z with
  | live n => exact p1.elim
  | zlive n ys => exact p1.elim
  | fix xs =>
    have hJ : Fixed K F1 μ1 H1 J xs := hJ
    let P : List MI.D → Fz → List Addr → Sto → Hp → Prop := fun ds F' μ' _ H' => ∀ p vs, H p = none → H' p = some (.lst vs) → ¬ F' p → p ∉ μ' → Reps K F' μ' H' ds vs → Q (.ref p) H'
    let B : CB := ⟨F, μ, H, F1, μ1, H1, D⟩
    let kk : Nat → List MI.D → M (List MI.D) := fun i => comp2Fix g t f2 ts2 g2 t2 e c (wipeE ρ own) (xs.drop i)
    refine ⟨fun i m H' => m = xs.length - i ∧ i ≤ xs.length ∧ CI K B (kk i) P W H', ⟨xs.length, rfl, Nat.zero_le _, F1, μ1, S1, [], [], q0, p1⟩, ?_⟩
    rintro i m H2 ⟨rfl, hi, F2, μ2, S2, acc2, vs2, q2, p2⟩
    obtain ⟨j1, j2, j3⟩ := hJ F2 μ2 H2 q2.m
    by_cases hlt : i < xs.length
    · have p2 : post K F μ H (comp2Fix g t f2 ts2 g2 t2 e c (wipeE ρ own) (xs.drop i) acc2 S2) P W := p2
      rw [List.drop_eq_getElem_cons hlt, comp2Fix_cons] at p2
      have p3 := p2.turn
      refine .inr ⟨j1 i hlt, CI K B (kk (i + 1)) P W, fun H' z => ⟨xs.length - (i + 1), by omega, rfl, hlt, z⟩, fun x H' y => ?_⟩
      obtain ⟨F3, e3, r3, x3⟩ := j3 i x H' xs[i] S2 y (List.getElem?_eq_getElem hlt) q2.r
      have key := comp_tgt (B := B) (T := fun σ2 H3 => rdI K W0 c f2 σ2 H3 fun J1 H4 => ∃ W1 : Nat → Nat → Hp → Prop, (∃ m, W1 0 m H4) ∧ ∀ j k H, W1 j k H → (J1.stop j H ∧ CI K B (kk (i + 1)) P W H) ∨ (J1.go j H ∧ ∃ Nx1 : Hp → Prop, (∀ H', Nx1 H' → ∃ k', k' < k ∧ W1 (j + 1) k' H') ∧ ∀ x H', J1.yld j H x H' →
          rdG K W0 c ts2 g2 x (L2.wipe σ2 ts2) H' fun σ3 H5 => L2.wipe σ3 ts2 = L2.wipe σ2 ts2 ∧ rdT K W0 c t2 σ3 H5 fun b H6 => if b = true then rdE K W0 c e σ3 H6 (fun y H7 => ∃ acc, H7 D = some (.lst acc) ∧ acc.length < sizeLine ∧ Nx1 (upd H7 D (.lst (acc ++ [y])))) else Nx1 H6))
        (q2.ext e3 r3) ((s1.mono q2.m).ext e3) x3 hts p3 fun F' μ' H' S' ρ' σ' q' s' _ p' => ?_
      · obtain ⟨F4, μ4, S4, ρ4, d4, h1, h2, h3, h4⟩ := key
        refine ⟨F4, μ4, S4, ρ4, d4, h1, h2, h3, h4.imp fun ρ5 F5 μ5 S5 H5 e5 r5 k5 σ5 s5 w5 => ?_⟩
        obtain ⟨w6, F6, μ6, S6, ρ6, h5, h6, h7⟩ := k5 σ5 s5 w5
        refine ⟨w6.trans (wipe_twice own σ), F6, μ6, S6, ρ6, h5, h6, h7.imp fun b F7 μ7 S7 H7 e7 r7 k7 => ?_⟩
        cases b with
        | true => simp only [if_true] at k7 ⊢; exact k7
        | false =>
          simp only [Bool.false_eq_true, if_false] at k7 ⊢
          exact k7.go
      · rw [bind_assoc'] at p'
        refine ⟨F', μ', S', ρ', q'.r, s', (p'.bind0.ext q'.e).imp fun z F4 μ4 S4 H4 e4 r4 p4 J1 hJ1 => ?_⟩
        cases z with
        | live n => exact p4.elim
        | zlive n ys => exact p4.elim
        | fix ys =>
          have p5 : post K F μ H (compFix g2 t2 e c (wipeE ρ' ts2) ys acc2 S4) (fun a _ _ S1 _ => post K F μ H (kk (i + 1) a S1) P W) W0 := by
            have e : M.bind (compFix g2 t2 e c (wipeE ρ' ts2) ys acc2) (fun a => M.pure a) S4 = compFix g2 t2 e c (wipeE ρ' ts2) ys acc2 S4 := by
              unfold M.bind
              cases compFix g2 t2 e c (wipeE ρ' ts2) ys acc2 S4 <;> rfl
            rw [← e]
            exact p4
          have q4 := q'.ext e4 r4
          have q5 : CAt K ⟨F, μ, H, F4, μ4, H4, D⟩ F4 μ4 H4 S4 acc2 vs2 := ⟨q4.h0, q4.e, Mono.ref, q4.r, q4.d, q4.a⟩
          have mm : Mono F1 μ1 H1 F4 μ4 H4 := q4.m
          exact comp_fix (B := ⟨F, μ, H, F4, μ4, H4, D⟩) (wipe_twice ts2 σ') (fun _ h => h) hJ1 ((s'.ext e4).wipe ts2) q5 p5 fun F5 μ5 S5 acc vs H5 q6 p6 => ⟨F5, μ5, S5, acc, vs, ⟨q6.h0, q6.e, mm.trans q6.m, q6.r, q6.d, q6.a⟩, p6⟩
    · have e : i = xs.length := by omega
      subst e
      have p2 : post K F μ H (comp2Fix g t f2 ts2 g2 t2 e c (wipeE ρ own) (xs.drop xs.length) acc2 S2) P W := p2
      rw [List.drop_length] at p2
      exact .inl ⟨j2, p2.atE q2.e q2.r D vs2 q2.h0 q2.d.at_ q2.d.nF q2.d.nμ q2.a⟩
end
end MI

/-! MI13: calls, contexts, what the text must be. -/
namespace MI
open PySem PySem.Spec PyProof.Rows L2
/-! ### what a def promises, where nothing is being shown -/
structure FnG (P : Program) (w : World) (K : PySem.W.Frag) (mg : Str → Option Value) (base : Heap) (CX : CXT) (k : Nat) (f : Addr) (fd : FuncData) (ps : List Str) (sp : Sp) : Prop where
  len : ∀ vs H Q E, sp vs H Q E → vs.length = ps.length
  run : ∀ (A : Around) (outer : List PySem.Env) (s : Shared) (H : Hp) (args : Args) (us : List Value) (vs : List V) (Q : VK) (E : XK), A.guards = some [] → Room k A → Env0 P w K mg base A outer s H → BindsTo s fd args (ps.zip us) → Vals vs us → sp vs H Q E →
    codeAny (model P w) A (.call (.ref f) args) (CR CX outer P w H s Q E) s
theorem FnG.mono {P : Program} {w : World} {K : PySem.W.Frag} {mg : Str → Option Value} {base : Heap} {CX : CXT} {j k : Nat} {f : Addr} {fd : FuncData} {ps : List Str} {sp : Sp} (F : FnG P w K mg base CX j f fd ps sp) (h : j ≤ k) : FnG P w K mg base CX k f fd ps sp :=
  ⟨F.len, fun A outer s H args us vs Q E hg hr => F.run A outer s H args us vs Q E hg (hr.mono h)⟩
section
variable {X : Cx} {CX : CXT} {k : Nat} {f : Addr} {fd : FuncData} {ps : List Str} {sp : Sp} {E : XK} {x : Str} {p pos : Pos} {e : Expr} {es : List Expr} {t : TA}
theorem run_fnG {pins : List (Addr × Obj)} {σ : L2.St} {H : Hp} {s : Shared} {Q : VK} {us zs : List Value} {kw : List (Str × Value)} {vs : List V} (F : FnG X.prog X.w X.K X.mg X.base CX k f fd ps sp) (hg : X.A.guards = some []) (hr : Room k X.A) (hx : Passes CX X E)
    (I : Inv X pins σ H s) (hb : BindsTo s fd ⟨zs, kw⟩ (ps.zip us)) (r : Vals vs us) (h : sp vs H Q E) : wpAny (model X.prog X.w) X.A (call (.ref f) zs kw) (EP X pins σ Q) X.xe s := by
  refine wpAny_call (codeAny_mono (F.run X.A X.stack s H ⟨zs, kw⟩ us vs Q E hg hr I.env0 hb r h) fun r s' hq => ?_)
  cases r with
  | error e => exact hx pins σ H s e s' I hq
  | ok fl =>
    cases fl with
    | ret u => exact I.after hq
    | next => exact False.elim hq
    | brk => exact False.elim hq
    | cont => exact False.elim hq
theorem pe_callG (F : FnG X.prog X.w X.K X.mg X.base CX k f fd ps sp) (hgd : X.A.guards = some []) (hr : Room k X.A) (hg : Gl X x) (hm : X.mg x = some (.ref f)) (hk : PySem.W.keepIn X.K (.ref f) = true) (hb : Binds X.K fd ps []) (hx : Passes CX X E)
    (ha : PA X (e :: es) t) (hdb : (x == ("__debug__" : Str)) = false) (he : starEach (e :: es) X.env = (false, eval e X.env) :: starEach es X.env) (hpl : (backTo pos (starEach es X.env)).any (·.1) = false) :
    PE X (.Call (.Name x p) (e :: es) [] pos) (fun σ H Q => t σ H fun vs H1 => sp vs H1 Q E) := by
  refine ⟨fun pins s σ H Q I h => ?_⟩
  refine wpAny_Call_Name_kw (ld_glob I hg hm ?_ hdb)
  refine PySem.W.callWith_K (h₀ := X.base) I.ok.mod.kin hk (thn (ha.run pos pins s σ H _ I h) fun us s1 ⟨vs, H1, I1, r, q⟩ => ⟨I1.kIn, ?_⟩) he hpl
  have l := F.len _ _ _ _ q
  have hb' := hb s1 us I1.kIn (by rw [List.append_nil, ← r.length]; exact l)
  rw [List.append_nil] at hb'
  exact run_fnG F hgd hr hx I1 hb' r q
theorem pe_callG0 (F : FnG X.prog X.w X.K X.mg X.base CX k f fd ps sp) (hgd : X.A.guards = some []) (hr : Room k X.A) (hg : Gl X x) (hm : X.mg x = some (.ref f)) (hk : PySem.W.keepIn X.K (.ref f) = true) (hb : Binds X.K fd ps []) (hx : Passes CX X E)
    (hdb : (x == ("__debug__" : Str)) = false) : PE X (.Call (.Name x p) [] [] pos) (fun σ H Q => sp [] H Q E) := by
  refine ⟨fun pins s σ H Q I h => ?_⟩
  refine wpAny_Call_Name_kw (ld_glob I hg hm ?_ hdb)
  have l := F.len _ _ _ _ h
  have hb' := hb s [] I.kIn (by rw [List.append_nil]; exact l)
  exact PySem.W.callWith_K0 I.kIn hk (run_fnG (us := []) F hgd hr hx I hb' .nil h)
/-- how a call with keywords binds -/
def permL {α : Type} (p : List Nat) (xs : List α) : List α := p.filterMap fun j => xs[j]?
def KB (K : PySem.W.Frag) (fd : FuncData) (ps : List Str) (m : Nat) (ks : List Str) (pm : List Nat) : Prop := ∀ (s : Shared) (us ws : List Value), K.In s.heap → us.length = m → ws.length = ks.length → BindsTo s fd ⟨us, ks.zip ws⟩ (ps.zip (permL pm (us ++ ws)))
theorem vals_perm {vs : List V} {us : List Value} (r : Vals vs us) : ∀ pm : List Nat, (∀ j ∈ pm, j < vs.length) → Vals (permL pm vs) (permL pm us)
  | [], _ => .nil
  | j :: pm, h => by
    have hj := h j (by simp)
    obtain ⟨u, e, ru⟩ := r.get (List.getElem?_eq_getElem hj)
    unfold permL
    rw [List.filterMap_cons, List.filterMap_cons, e, List.getElem?_eq_getElem hj]
    exact .cons ru (vals_perm r pm fun i hi => h i (List.mem_cons_of_mem _ hi))
variable {kws : List Keyword} {ks : List Str} {m : Nat} {pm : List Nat} {tk : TA}
theorem star_cons {e : Expr} {es : List Expr} (env : PySem.Env) (h : starFree (e :: es) = true) : starEach (e :: es) env = (false, eval e env) :: starEach es env ∧ starFree es = true := by
  cases e <;> first | exact ⟨rfl, h⟩ | (unfold starFree at h; cases h)
theorem star_any (env : PySem.Env) (pos : Pos) : ∀ {es : List Expr}, starFree es = true → (backTo pos (starEach es env)).any (·.1) = false
  | [], _ => rfl
  | e :: es, h => by
    obtain ⟨e1, h2⟩ := star_cons env h
    rw [e1]
    show (false || (backTo pos (starEach es env)).any (·.1)) = false
    rw [star_any env pos h2]; rfl
/-- keywords with names -/
theorem kw_names (env : PySem.Env) (pos : Pos) : ∀ {kws : List Keyword} {ks : List Str}, kws.mapM Keyword.arg = some ks → (backToKw pos (keywordEach kws env)).all (·.1.isSome) = true ∧ (backToKw pos (keywordEach kws env)).filterMap (·.1) = ks ∧ (backToKw pos (keywordEach kws env)).any (·.1.isNone) = false
  | [], ks, h => by
    have h : some ([] : List Str) = some ks := h
    cases h
    exact ⟨rfl, rfl, rfl⟩
  | ⟨nm, e, p⟩ :: kws, ks, h => by
    rw [List.mapM_cons] at h
    cases nm with
    | none => cases h
    | some x =>
      have h : (kws.mapM Keyword.arg >>= fun r => pure (x :: r) : Option (List Str)) = some ks := h
      cases q : kws.mapM Keyword.arg with
      | none => rw [q] at h; cases h
      | some ks' =>
        rw [q] at h
        have h : some (x :: ks') = some ks := h
        cases h
        obtain ⟨a, b, c⟩ := kw_names env pos q
        refine ⟨?_, ?_, ?_⟩
        · show (true && (backToKw pos (keywordEach kws env)).all (·.1.isSome)) = true
          rw [a]; rfl
        · show x :: (backToKw pos (keywordEach kws env)).filterMap (·.1) = x :: ks'
          rw [b]
        · show (false || (backToKw pos (keywordEach kws env)).any (·.1.isNone)) = false
          rw [c]; rfl
theorem pe_callGK (F : FnG X.prog X.w X.K X.mg X.base CX k f fd ps sp) (hgd : X.A.guards = some []) (hr : Room k X.A) (hg : Gl X x) (hm : X.mg x = some (.ref f)) (hk : PySem.W.keepIn X.K (.ref f) = true) (hb : KB X.K fd ps m ks pm) (hx : Passes CX X E) (hks : kws.mapM Keyword.arg = some ks)
    (hkw : PK X kws tk) (hdb : (x == ("__debug__" : Str)) = false) (hes : starFree (e :: es) = true) (ha : PA X (e :: es) t) :
    PE X (.Call (.Name x p) (e :: es) kws pos) (fun σ H Q => t σ H fun vs H1 => tk σ H1 fun zs H2 => vs.length = m ∧ zs.length = ks.length ∧ (∀ j ∈ pm, j < (vs ++ zs).length) ∧ sp (permL pm (vs ++ zs)) H2 Q E) := by
  refine ⟨fun pins s σ H Q I h => ?_⟩
  refine wpAny_Call_Name_kw (ld_glob I hg hm ?_ hdb)
  obtain ⟨a, b, c⟩ := kw_names X.env pos hks
  refine PySem.W.callWith_KW (h₀ := X.base) I.ok.mod.kin hk a (thn (ha.run pos pins s σ H _ I h) fun us s1 ⟨vs, H1, I1, r, q⟩ => ?_) (by rw [star_any X.env pos hes, c]; rfl) (star_cons X.env hes).1
  refine thn (hkw.run pos pins s1 σ H1 _ I1 q) fun ws s2 ⟨zs, H2, I2, rz, l1, l2, l3, q2⟩ => ⟨I2.kIn, ?_⟩
  rw [b]
  exact run_fnG F hgd hr hx I2 (hb s2 us ws I2.kIn (r.length.symm.trans l1) (rz.length.symm.trans l2)) (vals_perm (r.append rz) pm l3) q2
theorem pe_callGK0 (F : FnG X.prog X.w X.K X.mg X.base CX k f fd ps sp) (hgd : X.A.guards = some []) (hr : Room k X.A) (hg : Gl X x) (hm : X.mg x = some (.ref f)) (hk : PySem.W.keepIn X.K (.ref f) = true) (hb : KB X.K fd ps 0 ks pm) (hx : Passes CX X E) (hks : kws.mapM Keyword.arg = some ks)
    (hkw : PK X kws tk) (hdb : (x == ("__debug__" : Str)) = false) :
    PE X (.Call (.Name x p) [] kws pos) (fun σ H Q => tk σ H fun zs H2 => zs.length = ks.length ∧ (∀ j ∈ pm, j < zs.length) ∧ sp (permL pm zs) H2 Q E) := by
  refine ⟨fun pins s σ H Q I h => ?_⟩
  refine wpAny_Call_Name_kw (ld_glob I hg hm ?_ hdb)
  obtain ⟨a, b, c⟩ := kw_names X.env pos hks
  refine PySem.W.callWith_KW0 (h₀ := X.base) I.ok.mod.kin hk a (thn (hkw.run pos pins s σ H _ I h) fun ws s2 ⟨zs, H2, I2, rz, l2, l3, q2⟩ => ⟨I2.kIn, ?_⟩) (by rw [c]; rfl)
  rw [b]
  exact run_fnG (us := permL pm ws) F hgd hr hx I2 (hb s2 [] ws I2.kIn rfl (rz.length.symm.trans l2)) (vals_perm rz pm l3) q2
end
/-! ### the context -/
/-- the promise of the i-th def -/
def spF (K : PySem.W.Frag) (c : Call) (i np : Nat) : Sp := fun vs H Q E => ∃ F μ S args, Rl K F μ H S ∧ Reps K F μ H args vs ∧ args.length = np ∧ post K F μ H (c i args S) (pv' K Q) E
structure Ctx (G : GE) (c : Call) (W : XK) (k : Nat) (sc : Scope) (N : List Str) (X : Cx) : Prop where
  hN : X.N = N
  nd : N.Nodup
  calm : X.calm = true
  scp : X.env.scope = sc
  gd : X.A.guards = some []
  room : Room k X.A
  pass : Passes (CX X.prog X.w) X W
  fns : ∀ (i : Nat) (x : Str) (ps : List Str), G.fns[i]? = some (x, ps) → ∃ f fd, X.mg x = some (.ref f) ∧ PySem.W.keepIn X.K (.ref f) = true ∧ FnG X.prog X.w X.K X.mg X.base (CX X.prog X.w) k f fd ps (spF X.K c i ps.length) ∧ Binds X.K fd ps [] ∧
    ∀ (m : Nat) (ks : List Str) (pm : List Nat), (i, m, ks) ∈ G.kws → kwPerm ps m ks = some pm → KB X.K fd ps m ks pm
  ar : ∀ (i : Nat) (x : Str) (ps : List Str), G.fns[i]? = some (x, ps) → ∀ (as : List D) (S : Sto), as.length ≠ ps.length → c i as S = .bad
  cst : ∀ (x : Str) (d : D), G.cst.lookup x = some d → ∃ u v, X.mg x = some u ∧ RelV v u ∧ ∀ F μ H, Rep X.K F μ H d v
  blt : ∀ x : Str, x ∈ G.blt → x ≠ "gcd" → X.mg x = none
  gcd : ("gcd" : Str) ∈ G.blt → X.mg "gcd" = some (.builtin "math.gcd")
theorem Ctx.blk {G : GE} {c : Call} {W : XK} {k : Nat} {sc : Scope} {N : List Str} {X : Cx} (C : Ctx G c W k sc N X) (s : Shared) (H : Hp) (sco : Scope) (cl : List (Str × Addr)) (L : Addr) (fp : List Addr) :
    Ctx G c W0 k (relS sco sc) N (X.blk s H sco (compEnvC sco cl L X.env) fp) :=
  ⟨C.hN, C.nd, C.calm, by rw [← C.scp]; rfl, C.gd, C.room, fun pins σ H s e s' _ h => by
    obtain ⟨_, _, _, _, _, _, _, _, _, _, _, _, z⟩ := h
    exact z.elim, C.fns, C.ar, C.cst, C.blt, C.gcd⟩
section
variable {G : GE} {c : Call} {W : XK} {k : Nat} {sc : Scope} {N : List Str} {X : Cx}
theorem slot_get {N : List Str} {x : Str} {i : Nat} (h : slot N x = some i) : N[i]? = some x := by
  unfold slot at h
  obtain ⟨hl, h1⟩ := List.findIdx?_eq_some_iff_getElem.mp h
  rw [List.getElem?_eq_getElem hl]
  congr 1
  simpa using h1.1
theorem isVis_vis {sc : Scope} {x : Str} (h : isVis sc x = true) : Vis sc x := by
  unfold isVis nk at h
  split at h
  · exact .inl (by assumption)
  · exact .inr (.inl (by assumption))
  · exact .inr (.inr (by assumption))
  · cases h
theorem isLoc_loc {sc : Scope} {x : Str} (h : isLoc sc x = true) : Loc sc x := by
  unfold isLoc nk at h
  split at h
  · exact .inl (by assumption)
  · exact .inr (by assumption)
  · cases h
theorem isGl_gl (C : Ctx G c W k sc N X) {x : Str} (h : isGl sc x = true) : Gl X x := by
  unfold isGl nk at h
  split at h
  · rename_i e
    show X.env.scope.names.lookup x = _
    rw [C.scp]; exact e
  · cases h
theorem okN_1 {x : Str} (h : okN x = true) : (x == ("__debug__" : Str)) = false ∧ (x == ("__classdict__" : Str)) = false ∧ x ≠ "__name__" := by
  unfold okN at h
  simp only [Bool.and_eq_true, Bool.not_eq_true', decide_eq_false_iff_not] at h
  exact ⟨h.1.1, h.1.2, h.2⟩
theorem Ctx.hu (C : Ctx G c W k sc N X) : X.A.units + 65 < cLine := by
  have := C.room.un
  omega
end
end MI

/-! MI14: what the text computes: expressions, the pieces. -/
namespace MI
open PySem PySem.Spec PyProof.Rows L2
/-! ### targets -/
def SlIn (N : List Str) (vs : List Nat) : Nat → Expr → Prop
  | 0, _ => True
  | n + 1, e => match e with
    | .Name x _ => ∀ i, slot N x = some i → i ∈ vs
    | .Tuple es _ _ => ∀ e ∈ es, SlIn N vs n e
    | _ => True
theorem SlIn.down {N : List Str} {vs : List Nat} : ∀ {n : Nat} {e : Expr}, SlIn N vs (n + 1) e → SlIn N vs n e
  | 0, _, _ => trivial
  | n + 1, e, h => by
    cases e <;> try trivial
    · exact fun e he => SlIn.down (h e he)
theorem SlIn.more {N : List Str} {vs us : List Nat} (hs : ∀ i ∈ vs, i ∈ us) : ∀ {n : Nat} {e : Expr}, SlIn N vs n e → SlIn N us n e
  | 0, _, _ => trivial
  | n + 1, e, h => by
    cases e <;> try trivial
    · exact fun i hi => hs i (h i hi)
    · exact fun e he => SlIn.more hs (h e he)
theorem slIn_tsl (N : List Str) : ∀ (n : Nat) (e : Expr), SlIn N (tsl N n e) n e
  | 0, _ => trivial
  | n + 1, e => by
    cases e <;> try trivial
    · rename_i x p
      intro i hi
      show i ∈ (slot N x).toList
      rw [hi]; simp
    · rename_i es a b
      intro e he
      refine SlIn.more (fun i hi => ?_) (slIn_tsl N n e)
      exact List.mem_flatten.mpr ⟨_, List.mem_map.mpr ⟨e, he, rfl⟩, hi⟩
def TgOk (X : Cx) (sc : Scope) : Nat → Expr → Prop
  | 0, _ => True
  | n + 1, e => match e with
    | .Name x _ => X.fn x = true ∨ sc.names.lookup x = some .local
    | .Tuple es _ _ => ∀ e ∈ es, TgOk X sc n e
    | _ => True
theorem TgOk.down {X : Cx} {sc : Scope} : ∀ {n : Nat} {e : Expr}, TgOk X sc (n + 1) e → TgOk X sc n e
  | 0, _, _ => trivial
  | n + 1, e, h => by
    cases e <;> try trivial
    · exact fun e he => TgOk.down (h e he)
theorem tgOk_fun {X : Cx} {sc : Scope} (h : ∀ x, X.fn x = true) : ∀ (n : Nat) (e : Expr), TgOk X sc n e
  | 0, _ => trivial
  | n + 1, e => by
    cases e <;> try trivial
    · exact .inl (h _)
    · exact fun e he => tgOk_fun h n e
theorem relS_local {s sc : Scope} {x : Str} (h : s.names.lookup x = some .local) : (relS s sc).names.lookup x = some .local := by
  unfold relS
  generalize s.names = l at h
  induction l with
  | nil => cases h
  | cons p l ih =>
    obtain ⟨y, q⟩ := p
    simp only [List.map_cons]
    by_cases e : x == y
    · simp only [List.lookup_cons, e] at h
      cases h
      have z : (NameKind.local == NameKind.free) = false := rfl
      simp [List.lookup_cons, e, z]
    · have e : (x == y) = false := by simpa using e
      simp only [List.lookup_cons, e] at h
      have ih := ih h
      split
      · simp only [List.lookup_cons, e]; exact ih
      · simp only [List.lookup_cons, e]; exact ih
theorem tgOk_blk {X : Cx} {s sc : Scope} (h : ∀ x, X.fn x = (s.names.lookup x == some .cell)) : ∀ (n : Nat) (e : Expr), tgtOwn s n e = true → TgOk X (relS s sc) n e
  | 0, _, _ => trivial
  | n + 1, e, t => by
    cases e <;> try trivial
    · rename_i x p
      unfold tgtOwn at t
      dsimp only at t
      split at t
      · rename_i q
        exact .inr (relS_local q)
      · rename_i q
        exact .inl (by rw [h, q]; rfl)
      · cases t
    · rename_i es a b
      unfold tgtOwn at t
      dsimp only at t
      exact fun e he => tgOk_blk h n e (List.all_eq_true.mp t e he)
theorem asg_cons {e : Expr} {es : List Expr} (env : PySem.Env) (h : starFree (e :: es) = true) : assignEach (e :: es) env = (false, assign e env) :: assignEach es env ∧ starFree es = true := by
  cases e <;> first | exact ⟨rfl, h⟩ | (unfold starFree at h; cases h)
theorem asg_len (env : PySem.Env) : ∀ {es : List Expr}, starFree es = true → (assignEach es env).length = es.length ∧ (assignEach es env).findIdx? (·.1) = none
  | [], _ => ⟨rfl, rfl⟩
  | e :: es, h => by
    obtain ⟨e1, h2⟩ := asg_cons env h
    obtain ⟨a, b⟩ := asg_len env h2
    rw [e1]
    exact ⟨by rw [List.length_cons, List.length_cons, a], by rw [List.findIdx?_cons]; simp only [Bool.false_eq_true, if_false]; rw [b]; rfl⟩
/-! ### isinstance -/
def tyN : Ty → String
  | .int => "int" | .bool => "bool" | .tuple => "tuple" | .str => "str" | .list => "list" | .dict => "dict"
theorem kit_tab : ∀ t : Ty, kitB "NoneType" (tyN t) = some false ∧ kitB "bool" (tyN t) = some (decide (t = .bool ∨ t = .int)) ∧ kitB "int" (tyN t) = some (decide (t = .int)) ∧ kitB "str" (tyN t) = some (decide (t = .str)) ∧
    kitB "tuple" (tyN t) = some (decide (t = .tuple)) ∧ kitB "list" (tyN t) = some (decide (t = .list)) ∧ kitB "dict" (tyN t) = some (decide (t = .dict)) := by
  intro t
  cases t <;> decide +kernel
theorem cTy_boot {x : Str} {t : Ty} (h : cTy x = some t) : bootBuiltins x = some (.type (tyN t)) := by
  unfold cTy at h
  repeat' split at h
  all_goals first
    | (subst_vars; cases h; decide +kernel)
    | cases h
section
variable {K : PySem.W.Frag} {F : Fz} {μ : List Addr} {H : Hp} {S : Sto}
theorem dat_ty (R : Rl K F μ H S) {d : D} {v : V} (h : Rep K F μ H d v) {t : Ty} {b : Bool} (e : isTyO S t d = some b) : ∃ u, TyX K H v u ∧ PySem.W.kitOne K u (.type (tyN t)) = some b := by
  obtain ⟨k1, k2, k3, k4, k5, k6, k7⟩ := kit_tab t
  cases d with
  | non => rw [h.nonI]; cases e; exact ⟨_, .base .non, kit_ty k1⟩
  | bl y => rw [h.blI]; cases e; exact ⟨_, .base (.bl y), kit_ty k2⟩
  | int y => rw [h.intI]; cases e; exact ⟨_, .base (.int y), kit_ty k3⟩
  | str y => rw [h.strI]; cases e; exact ⟨_, .base (.str y), kit_ty k4⟩
  | tup xs =>
    cases e
    obtain ⟨a, vs, rfl, q, _⟩ := h.tupI
    rcases q with ⟨_, q⟩ | q
    · exact ⟨_, .base (.tup q), kit_ty k5⟩
    · rcases q (fun _ => none) with q | ⟨o, its, n, q1, q2, _⟩
      · rcases q with q | ⟨o, q⟩ <;> cases q
      · exact ⟨_, .kTuple q1 q2, kit_ty k5⟩
  | lst xs =>
    cases e
    obtain ⟨a, vs, rfl, _, q, _⟩ := h.lstI
    exact ⟨_, .base (.lst q), kit_ty k6⟩
  | loc m =>
    obtain ⟨xs, e1, e2⟩ := omap e
    cases e2
    obtain ⟨a, vs, rfl, q, _⟩ := R.list h e1
    exact ⟨_, .base (.lst q), kit_ty k6⟩
  | dct kvs =>
    cases e
    unfold Rep at h
    obtain ⟨a, vs, rfl, _, q, _⟩ := h
    exact ⟨_, .base (.dK q), kit_ty k7⟩
  | scr ns => cases e
end
end MI

/-! MI15: what the text computes: expressions. -/
namespace MI
open PySem PySem.Spec PyProof.Rows L2
section
variable (G : GE) (c : Call) (k : Nat) (n : Nat)
structure Snd : Prop where
  E : ∀ (sc : Scope) (N : List Str) (W : XK) (X : Cx) (e : Expr) (f : ME), Ctx G c W k sc N X → cE G n sc N e = some f → PE X e (rdE X.K W c f)
  Bo : ∀ (sc : Scope) (N : List Str) (W : XK) (X : Cx) (op : BoolOp) (es : List Expr) (p : Pos) (f : ME), Ctx G c W k sc N X → cBo G n sc N op es = some f → PE X (.BoolOp op es p) (rdE X.K W c f)
  T : ∀ (sc : Scope) (N : List Str) (W : XK) (X : Cx) (e : Expr) (f : MT), Ctx G c W k sc N X → cT G n sc N e = some f → PT X e (rdT X.K W c f)
  To : ∀ (sc : Scope) (N : List Str) (W : XK) (X : Cx) (op : BoolOp) (es : List Expr) (p : Pos) (f : MT), Ctx G c W k sc N X → cTo G n sc N op es = some f → PW X (.BoolOp op es p) (rdT X.K W c f)
  A : ∀ (sc : Scope) (N : List Str) (W : XK) (X : Cx) (es : List Expr) (f : MA), Ctx G c W k sc N X → cA G n sc N es = some f → PA X es (rdA X.K W c f) ∧ starFree es = true
  KW : ∀ (sc : Scope) (N : List Str) (W : XK) (X : Cx) (kws : List Keyword) (f : MA), Ctx G c W k sc N X → cA G n sc N (kws.map Keyword.value) = some f → PK X kws (rdA X.K W c f)
  O : ∀ (sc : Scope) (N : List Str) (W : XK) (X : Cx) (o : Option Expr) (f : Call → Env → M (Option Int)), Ctx G c W k sc N X → cO G n sc N o = some f → PO X o (rdO X.K W c f)
  L : ∀ (sc : Scope) (N : List Str) (W : XK) (X : Cx) (e : Expr) (f : MA), Ctx G c W k sc N X → cL G n sc N e = some f → PE X e (rdL X.K W c f)
  Ifs : ∀ (sc : Scope) (N : List Str) (W : XK) (X : Cx) (es : List Expr) (f : MT), Ctx G c W k sc N X → cIfs G n sc N es = some f → PTs X es (rdT X.K W c f)
  I : ∀ (sc : Scope) (N : List Str) (W : XK) (X : Cx) (tg e : Expr) (f : MI), Ctx G c W k sc N X → tgtIt sc tg e = true → cI G n sc N e = some f → PI X tg e (rdI X.K W c f)
  Gt : ∀ (sc : Scope) (N : List Str) (W : XK) (X : Cx) (e : Expr) (g : MG) (vs : List Nat), Ctx G c W k sc N X → TgOk X sc n e → SlIn N vs n e → cG G n sc N e = some g → PG X e (rdG X.K W c vs g) ∧ starFree [e] = true
  Gs : ∀ (sc : Scope) (N : List Str) (W : XK) (X : Cx) (es : List Expr) (gs : List MG) (vs : List Nat), Ctx G c W k sc N X → (∀ e ∈ es, TgOk X sc n e) → (∀ e ∈ es, SlIn N vs n e) → cGs G n sc N es = some gs → PGs X es (rdGs X.K W c vs gs) ∧ gs.length = es.length ∧ starFree es = true
  Blt : ∀ (sc : Scope) (N : List Str) (W : XK) (X : Cx) (e : Expr) (x : Str) (args : List Expr) (p q : Pos) (f : ME), Ctx G c W k sc N X → isGl sc x = true → okN x = true → x ∈ G.blt → cBlt G n sc N e x args p = some f → PE X (.Call (.Name x q) args [] p) (rdE X.K W c f)
  Blt1 : ∀ (sc : Scope) (N : List Str) (W : XK) (X : Cx) (e : Expr) (x : Str) (args : List Expr) (p q : Pos) (f : ME), Ctx G c W k sc N X → isGl sc x = true → okN x = true → x ∈ G.blt → cBlt1 G n sc N e x args p = some f → PE X (.Call (.Name x q) args [] p) (rdE X.K W c f)
  Ls : ∀ (sc : Scope) (N : List Str) (W : XK) (X : Cx) (a : Expr) (p q : Pos) (f : MA), Ctx G c W k sc N X → Gl X "list" → ("list" : Str) ∈ G.blt → cLs G n sc N a = some f → PE X (.Call (.Name "list" q) [a] [] p) (rdL X.K W c f)
  Meth : ∀ (sc : Scope) (N : List Str) (W : XK) (X : Cx) (o : Expr) (m : Str) (args : List Expr) (ap p : Pos) (f : ME), Ctx G c W k sc N X → plainBase o = true → (ap.endLine == p.line) = true → cMeth G n sc N o m args = some f → PE X (.Call (.Attribute o m ap) args [] p) (rdE X.K W c f)
end
section
variable {G : GE} {c : Call} {k n : Nat} {sc : Scope} {N : List Str} {W : XK} {X : Cx}
/-! ### readings of the combinators -/
theorem rd_fz {K : PySem.W.Frag} {f : MA} {σ : L2.St} {H : Hp} {Q : VK} (w : rdE K W c (eFz f) σ H Q) : rdL K W c f σ H Q := by
  obtain ⟨F, μ, S, ρ, r0, s0, p⟩ := w
  refine ⟨F, μ, S, ρ, r0, s0, p.bind0.imp fun xs F1 μ1 S1 H1 e1 r1 p1 a vs ha ha1 nF nμ hr => ?_⟩
  have hne : H1 a ≠ none := by rw [ha1]; simp
  have r2 := r1.still (p := a) hne nμ
  have e2 : Ext F μ H (addF F1 a) μ1 H1 := ⟨e1.pre, e1.new, fun b h => .inl (e1.frz b h), fun b h => h.elim (e1.newF b) fun q => .inr (q ▸ ha), e1.keep, e1.there, e1.nf⟩
  refine p1.atE e2 r2 _ ?_
  unfold Rep
  exact ⟨a, vs, rfl, .inr rfl, ha1, hr.mono ⟨fun _ _ h => h, fun _ h => .inl h, fun _ h => h⟩⟩
theorem rd_mu {K : PySem.W.Frag} {f : MA} {σ : L2.St} {H : Hp} {Q : VK} (w : rdE K W c (eMu f) σ H Q) : rdL K W c f σ H Q := by
  obtain ⟨F, μ, S, ρ, r0, s0, p⟩ := w
  refine ⟨F, μ, S, ρ, r0, s0, p.bind0.imp fun xs F1 μ1 S1 H1 e1 r1 p1 a vs ha ha1 nF nμ hr => ?_⟩
  unfold newL at p1
  cases q : pureL xs with
  | false => rw [q] at p1; exact p1.elim
  | true =>
    rw [q] at p1
    have r2 := r1.newM (p := a) (o := .lst xs) (x := .lst vs) ha1 nμ nF ⟨q, vs, rfl, hr⟩
    have e2 : Ext F μ H F1 (μ1 ++ [a]) H1 := ⟨fun i b h => by
        have := e1.pre i b h
        rw [List.getElem?_append_left (List.getElem?_eq_some_iff.mp this).1]; exact this, fun b h => by
        rcases List.mem_append.mp h with h | h
        · exact e1.new b h
        · exact .inr (by rw [List.mem_singleton.mp h]; exact ha), e1.frz, e1.newF, e1.keep, e1.there, e1.nf⟩
    refine p1.atE e2 r2 _ ?_
    unfold Rep
    exact ⟨a, rfl, by rw [← r1.len, List.getElem?_append_right (Nat.le_refl _)]; simp⟩
theorem rd_cons {K : PySem.W.Frag} {f : ME} {g : MA} {σ : L2.St} {H : Hp} {Q : List V → Hp → Prop} (w : rdA K W c (aCons f g) σ H Q) : tCons (rdE K W c f) (rdA K W c g) σ H Q := by
  obtain ⟨F, μ, S, ρ, r0, s0, p⟩ := w
  refine ⟨F, μ, S, ρ, r0, s0, p.bind.imp fun d F1 μ1 S1 H1 e1 r1 p1 x hx => ?_⟩
  refine ⟨F1, μ1, S1, ρ, r1, s0.ext e1, p1.bind.imp fun ds F2 μ2 S2 H2 e2 r2 p2 vs hv => ?_⟩
  exact p2.at r2 _ (Reps.cons (hx.ext e2) hv)
theorem rd_nil {K : PySem.W.Frag} {σ : L2.St} {H : Hp} {Q : List V → Hp → Prop} (w : rdA K W c aNil σ H Q) : tNil σ H Q := by
  obtain ⟨F, μ, S, ρ, r0, s0, p⟩ := w
  exact p.at r0 _ Reps.nil
theorem rd_const {K : PySem.W.Frag} {σ : L2.St} {H : Hp} {Q : VK} {d : D} {v : V} (hd : ∀ F μ H, Rep K F μ H d v) (w : rdE K W c (eC d) σ H Q) : tC v σ H Q := by
  obtain ⟨F, μ, S, ρ, r0, s0, p⟩ := w
  exact p.val r0 (hd F μ H)
theorem rd_var {K : PySem.W.Frag} {σ : L2.St} {H : Hp} {Q : VK} {i : Nat} (w : rdE K W c (eVar i) σ H Q) : tVar i σ H Q := by
  obtain ⟨F, μ, S, ρ, r0, s0, p⟩ := w
  unfold eVar at p
  cases q : ρ[i]? with
  | none => rw [q] at p; exact p.elim
  | some o =>
    cases o with
    | none => rw [q] at p; exact p.elim
    | some d =>
      rw [q] at p
      obtain ⟨v, e, r⟩ := s0.get i d q
      exact ⟨v, e, post.val p r0 r⟩
end
end MI

/-! MI16: what the text computes: expressions, the cases. -/
namespace MI
open PySem PySem.Spec PyProof.Rows L2
section
variable {G : GE} {c : Call} {k n : Nat} {sc : Scope} {N : List Str} {W : XK} {X : Cx}
theorem cE_notSet {e : Expr} {f : ME} (h : cE G n sc N e = some f) : notSet e = true := by
  cases n with
  | zero => unfold cE at h; cases h
  | succ n => cases e <;> first | rfl | (unfold cE at h; cases h)
theorem behind_no {op : CmpOp} {b : Expr} (h : notSet b = true) : behindInMarks op b = false := by
  cases b <;> first | rfl | cases h
theorem cE_nostar {e : Expr} {f : ME} (h : cE G n sc N e = some f) : starFree [e] = true := by
  cases n with
  | zero => unfold cE at h; cases h
  | succ n => cases e <;> first | rfl | (unfold cE at h; cases h)
theorem plainIx {b : Expr} (h : notSlice b = true) : PlainIx b := by
  cases b <;> first | exact fun _ _ => rfl | cases h
theorem plainB {o : Expr} (h : plainBase o = true) (m : Str) (env : PySem.Env) : attributeBase o m env (eval o env) = eval o env := by
  cases o <;> try rfl
  rename_i f args kws p
  cases args with
  | cons _ _ => cases f <;> rfl
  | nil =>
    cases kws with
    | cons _ _ => cases f <;> rfl
    | nil => cases h
/-! #### readings -/
theorem rd_cmp {K : PySem.W.Frag} {op : CmpOp} {r : R2} {f g : ME} {σ : L2.St} {H : Hp} {Q : Bool → Hp → Prop} {Q2 : VK} (w : rdT K W c (tCmp op f g) σ H Q) (hq : ∀ b H, Q b H → Q2 (.bl b) H)
    (kk : ∀ {F : Fz} {μ : List Addr} {H : Hp} {S : Sto} {Q : VK} {a b : D} {x y : V} {k : Bool}, Rl K F μ H S → Rep K F μ H a x → Rep K F μ H b y → cmpO op S a b = some k → Q (.bl k) H → r x y H Q) : tOp r (rdE K W c f) (rdE K W c g) σ H Q2 := by
  obtain ⟨F, μ, S, ρ, r0, s0, p⟩ := w
  refine ⟨F, μ, S, ρ, r0, s0, p.bind.imp fun a F1 μ1 S1 H1 e1 r1 p1 x hx => ?_⟩
  refine ⟨F1, μ1, S1, ρ, r1, s0.ext e1, p1.bind.imp fun b F2 μ2 S2 H2 e2 r2 p2 y hy => ?_⟩
  obtain ⟨q, eq, p2⟩ := p2.opt
  exact kk r2 (hx.ext e2) hy eq (hq _ _ (p2.at r2))
theorem rd_chain {K : PySem.W.Frag} {op op' : CmpOp} {r r' : R2} {f g h : ME} {σ : L2.St} {H : Hp} {Q : Bool → Hp → Prop} {Q2 : VK} (w : rdT K W c (tChain op op' f g h) σ H Q) (hq : ∀ b H, Q b H → Q2 (.bl b) H)
    (kk : ∀ {F : Fz} {μ : List Addr} {H : Hp} {S : Sto} {Q : VK} {a b : D} {x y : V} {k : Bool}, Rl K F μ H S → Rep K F μ H a x → Rep K F μ H b y → cmpO op S a b = some k → Q (.bl k) H → r x y H Q)
    (kk' : ∀ {F : Fz} {μ : List Addr} {H : Hp} {S : Sto} {Q : VK} {a b : D} {x y : V} {k : Bool}, Rl K F μ H S → Rep K F μ H a x → Rep K F μ H b y → cmpO op' S a b = some k → Q (.bl k) H → r' x y H Q) :
    L2.tChain r r' (rdE K W c f) (rdE K W c g) (rdE K W c h) σ H Q2 := by
  obtain ⟨F, μ, S, ρ, r0, s0, p⟩ := w
  refine ⟨F, μ, S, ρ, r0, s0, p.bind.imp fun a F1 μ1 S1 H1 e1 r1 p1 x hx => ?_⟩
  have s1 := s0.ext e1
  refine ⟨F1, μ1, S1, ρ, r1, s1, p1.bind.imp fun b F2 μ2 S2 H2 e2 r2 p2 y hy => ?_⟩
  have s2 := s1.ext e2
  have p2 : post K F2 μ2 H2 (M.bind (cmpD op a b) _ S2) _ W := p2
  obtain ⟨q, eq, p3⟩ := p2.optB
  refine kk r2 (hx.ext e2) hy eq ⟨q, rfl, ?_⟩
  cases q with
  | false =>
    simp only [Bool.false_eq_true, if_false]
    exact hq _ _ (p3.at r2)
  | true =>
    simp only [if_true]
    have p3 : post K F2 μ2 H2 (M.bind (h c ρ) (fun d => cmpD op' b d) S2) _ W := p3
    refine ⟨F2, μ2, S2, ρ, r2, s2, p3.bind.imp fun d F3 μ3 S3 H3 e3 r3 p4 z hz => ?_⟩
    obtain ⟨q2, eq2, p5⟩ := p4.opt
    exact kk' r3 (hy.ext e3) hz eq2 (hq _ _ (p5.at r3))
theorem rd_ofB {K : PySem.W.Frag} {t : MT} {σ : L2.St} {H : Hp} {Q : VK} (w : rdE K W c (ofB t) σ H Q) : rdT K W c t σ H fun b H => Q (.bl b) H := by
  obtain ⟨F, μ, S, ρ, r0, s0, p⟩ := w
  exact ⟨F, μ, S, ρ, r0, s0, p.bind.imp fun b F1 μ1 S1 H1 e1 r1 p1 => p1.val r1 (rep_bl b)⟩
theorem rd_if {K : PySem.W.Frag} {t : MT} {f g : ME} {σ : L2.St} {H : Hp} {Q : VK} (w : rdE K W c (eIf t f g) σ H Q) : L2.tIf (rdT K W c t) (rdE K W c f) (rdE K W c g) σ H Q := by
  obtain ⟨F, μ, S, ρ, r0, s0, p⟩ := w
  refine ⟨F, μ, S, ρ, r0, s0, p.bind.imp fun b F1 μ1 S1 H1 e1 r1 p1 => ?_⟩
  cases b with
  | true => simp only [if_true]; exact ⟨F1, μ1, S1, ρ, r1, s0.ext e1, p1⟩
  | false => simp only [Bool.false_eq_true, if_false]; exact ⟨F1, μ1, S1, ρ, r1, s0.ext e1, p1⟩
theorem rd_not {K : PySem.W.Frag} {f : ME} {σ : L2.St} {H : Hp} {Q : VK} (w : rdE K W c (eNot f) σ H Q) : tNotV (rdE K W c f) σ H Q := by
  obtain ⟨F, μ, S, ρ, r0, s0, p⟩ := w
  refine ⟨F, μ, S, ρ, r0, s0, p.bind.imp fun d F1 μ1 S1 H1 e1 r1 p1 x hx => ?_⟩
  cases d with
  | bl b => exact ⟨b, hx.blI, post.val p1 r1 (rep_bl _)⟩
  | _ => exact p1.elim
theorem rd_and {K : PySem.W.Frag} {f g : ME} {σ : L2.St} {H : Hp} {Q : VK} (w : rdE K W c (eAnd f g) σ H Q) : tAndV (rdE K W c f) (rdE K W c g) σ H Q := by
  obtain ⟨F, μ, S, ρ, r0, s0, p⟩ := w
  refine ⟨F, μ, S, ρ, r0, s0, p.bind.imp fun d F1 μ1 S1 H1 e1 r1 p1 x hx => ?_⟩
  cases d with
  | bl b =>
    refine ⟨b, hx.blI, ?_⟩
    cases b with
    | true => simp only [if_true]; exact ⟨F1, μ1, S1, ρ, r1, s0.ext e1, p1⟩
    | false => simp only [Bool.false_eq_true, if_false]; exact post.val p1 r1 (rep_bl _)
  | _ => exact p1.elim
theorem rd_or {K : PySem.W.Frag} {f g : ME} {σ : L2.St} {H : Hp} {Q : VK} (w : rdE K W c (eOr f g) σ H Q) : tOrV (rdE K W c f) (rdE K W c g) σ H Q := by
  obtain ⟨F, μ, S, ρ, r0, s0, p⟩ := w
  refine ⟨F, μ, S, ρ, r0, s0, p.bind.imp fun d F1 μ1 S1 H1 e1 r1 p1 x hx => ?_⟩
  cases d with
  | bl b =>
    refine ⟨b, hx.blI, ?_⟩
    cases b with
    | true => simp only [if_true]; exact post.val p1 r1 (rep_bl _)
    | false => simp only [Bool.false_eq_true, if_false]; exact ⟨F1, μ1, S1, ρ, r1, s0.ext e1, p1⟩
  | _ => exact p1.elim
theorem rd_tup {K : PySem.W.Frag} {f : MA} {σ : L2.St} {H : Hp} {Q : VK} (w : rdE K W c (eTup f) σ H Q) : tTup (rdA K W c f) σ H Q := by
  obtain ⟨F, μ, S, ρ, r0, s0, p⟩ := w
  refine ⟨F, μ, S, ρ, r0, s0, p.bind.imp fun ds F1 μ1 S1 H1 e1 r1 p1 vs hv => ?_⟩
  obtain ⟨z, p1⟩ := p1.chkB
  exact ⟨by rw [hv.length]; exact fits_le z, fun a ha => post.tup p1 r1 ha hv⟩
theorem rd_tAnd {K : PySem.W.Frag} {f g : MT} {σ : L2.St} {H : Hp} {Q : Bool → Hp → Prop} (w : rdT K W c (tAnd f g) σ H Q) : L2.tAnd (rdT K W c f) (rdT K W c g) σ H Q := by
  obtain ⟨F, μ, S, ρ, r0, s0, p⟩ := w
  refine ⟨F, μ, S, ρ, r0, s0, p.bind.imp fun b F1 μ1 S1 H1 e1 r1 p1 => ?_⟩
  cases b with
  | true => simp only [if_true]; exact ⟨F1, μ1, S1, ρ, r1, s0.ext e1, p1⟩
  | false => simp only [Bool.false_eq_true, if_false]; exact p1.at r1
theorem rd_tOr {K : PySem.W.Frag} {f g : MT} {σ : L2.St} {H : Hp} {Q : Bool → Hp → Prop} (w : rdT K W c (tOr f g) σ H Q) : L2.tOr (rdT K W c f) (rdT K W c g) σ H Q := by
  obtain ⟨F, μ, S, ρ, r0, s0, p⟩ := w
  refine ⟨F, μ, S, ρ, r0, s0, p.bind.imp fun b F1 μ1 S1 H1 e1 r1 p1 => ?_⟩
  cases b with
  | true => simp only [if_true]; exact p1.at r1
  | false => simp only [Bool.false_eq_true, if_false]; exact ⟨F1, μ1, S1, ρ, r1, s0.ext e1, p1⟩
theorem rd_tNot {K : PySem.W.Frag} {f : MT} {σ : L2.St} {H : Hp} {Q : Bool → Hp → Prop} (w : rdT K W c (tNot f) σ H Q) : L2.tNot (rdT K W c f) σ H Q := by
  obtain ⟨F, μ, S, ρ, r0, s0, p⟩ := w
  exact ⟨F, μ, S, ρ, r0, s0, p.bind.imp fun b F1 μ1 S1 H1 e1 r1 p1 => p1.at r1⟩
theorem rd_tru {K : PySem.W.Frag} {f : ME} {σ : L2.St} {H : Hp} {Q : Bool → Hp → Prop} (w : rdT K W c (tTru f) σ H Q) : rdE K W c f σ H fun x H' => ∃ k, TruV K x H' k ∧ Q k H' := by
  obtain ⟨F, μ, S, ρ, r0, s0, p⟩ := w
  refine ⟨F, μ, S, ρ, r0, s0, p.bind.imp fun d F1 μ1 S1 H1 e1 r1 p1 x hx => ?_⟩
  obtain ⟨b, e, p1⟩ := p1.opt
  exact ⟨b, dat_truth r1 hx e, p1.at r1⟩
theorem rd_slice {K : PySem.W.Frag} {f : ME} {l h : Call → MI.Env → M (Option Int)} {σ : L2.St} {H : Hp} {Q : VK} (w : rdE K W c (eSlice f l h) σ H Q) : tSl (rSlAll K) (rdE K W c f) (rdO K W c l) (rdO K W c h) σ H Q := by
  obtain ⟨F, μ, S, ρ, r0, s0, p⟩ := w
  refine ⟨F, μ, S, ρ, r0, s0, p.bind.imp fun d F1 μ1 S1 H1 e1 r1 p1 x hx => ?_⟩
  have s1 := s0.ext e1
  refine ⟨F1, μ1, S1, ρ, r1, s1, p1.bind.imp fun i F2 μ2 S2 H2 e2 r2 p2 => ?_⟩
  have s2 := s1.ext e2
  refine ⟨F2, μ2, S2, ρ, r2, s2, p2.bind.imp fun j F3 μ3 S3 H3 e3 r3 p3 => ?_⟩
  exact dat_slice r3 ((hx.ext e2).ext e3) p3
theorem rd_oSome {K : PySem.W.Frag} {f : ME} {σ : L2.St} {H : Hp} {Q : Option Int → Hp → Prop} (w : rdO K W c (oSome f) σ H Q) : tPart (rdE K W c f) σ H Q := by
  obtain ⟨F, μ, S, ρ, r0, s0, p⟩ := w
  refine ⟨F, μ, S, ρ, r0, s0, p.bind.imp fun d F1 μ1 S1 H1 e1 r1 p1 x hx => ?_⟩
  cases d with
  | int i => exact ⟨i, hx.intI, p1.at r1⟩
  | _ => exact p1.elim
theorem rdE_imp {K : PySem.W.Frag} {f : ME} {σ : L2.St} {H : Hp} {Q Q' : VK} (w : rdE K W c f σ H Q) (i : ∀ x H, Q x H → Q' x H) : rdE K W c f σ H Q' := by
  obtain ⟨F, μ, S, ρ, r0, s0, p⟩ := w
  exact ⟨F, μ, S, ρ, r0, s0, p.imp fun d F1 μ1 S1 H1 e1 r1 p1 x hx => i x H1 (p1 x hx)⟩
theorem rd_meth {K : PySem.W.Frag} {f g : ME} {h : D → D → M D} {r : V → List V → Hp → VK → Prop} {σ : L2.St} {H : Hp} {Q : VK} (w : rdE K W c (eMeth h f g) σ H Q)
    (kk : ∀ F μ S H2 a b x y, Rl K F μ H2 S → Rep K F μ H2 a x → Rep K F μ H2 b y → post K F μ H2 (h a b S) (pv' K Q) W → r x [y] H2 Q) : tBM K "list" r (rdE K W c f) (tCons (rdE K W c g) tNil) σ H Q := by
  obtain ⟨F, μ, S, ρ, r0, s0, p⟩ := w
  refine ⟨F, μ, S, ρ, r0, s0, p.bind.imp fun a F1 μ1 S1 H1 e1 r1 p1 x hx => ?_⟩
  obtain ⟨xs, ex, p1⟩ := p1.items'
  obtain ⟨q, vs, rfl, hq, rs⟩ := r1.list hx ex
  exact ⟨.inl ⟨rfl, vs, SqL.of hq⟩, F1, μ1, S1, ρ, r1, s0.ext e1, p1.bind.imp fun b F2 μ2 S2 H2 e2 r2 p2 y hy => kk F2 μ2 S2 H2 a b _ y r2 (hx.ext e2) hy p2⟩
/-! #### new lists -/
theorem Rl.free {K : PySem.W.Frag} {F : Fz} {μ : List Addr} {H : Hp} {S : Sto} (r : Rl K F μ H S) {D : Addr} (hD : H D = none) (x : HO) : Rl K F μ (upd H D x) S := by
  have m : Mono F μ H F μ (L2.upd H D x) := ⟨fun _ _ h => h, fun _ h => h, fun {a o} hf h => by rw [upd_ne (show a ≠ D from fun q => by rw [q, hD] at h; cases h)]; exact h⟩
  refine ⟨fun a h => ?_, r.len, r.nd, r.nf, fun n o a h1 h2 => ?_⟩
  · rw [upd_ne (show a ≠ D from fun q => r.fz a h (q ▸ hD))]; exact r.fz a h
  · obtain ⟨x, x1, x2⟩ := r.obj n o a h1 h2
    refine ⟨x, ?_, x2.mono m⟩
    rw [upd_ne (show a ≠ D from fun q => by rw [q, hD] at x1; cases x1)]
    exact x1
abbrev newP (K : PySem.W.Frag) (H0 : Hp) (Q : VK) : List D → Fz → List Addr → Sto → Hp → Prop := fun ds F' μ' _ H' => ∀ p vs, H0 p = none → H' p = some (.lst vs) → ¬ F' p → p ∉ μ' → Reps K F' μ' H' ds vs → Q (.ref p) H'
theorem post_new {K : PySem.W.Frag} {F0 F1 : Fz} {μ0 μ1 : List Addr} {H0 H1 : Hp} {S1 : Sto} {ds : List D} {vs : List V} {Q : VK} {q : Addr} (p : post K F0 μ0 H0 (.ok ds S1) (newP K H0 Q) W) (e : Ext F0 μ0 H0 F1 μ1 H1) (r : Rl K F1 μ1 H1 S1) (hq : H1 q = none) (hv : Reps K F1 μ1 H1 ds vs) : Q (.ref q) (upd H1 q (.lst vs)) := by
  have h0 : H0 q = none := Classical.byContradiction fun z => e.there q z hq
  refine p.atE (ext_upd e h0) (r.free hq _) q vs h0 upd_same (r.freshF hq) (r.fresh hq) ?_
  exact hv.mono ⟨fun _ _ h => h, fun _ h => h, fun {a o} hf h => by rw [upd_ne (show a ≠ q from fun z => by rw [z, hq] at h; cases h)]; exact h⟩
theorem rdL_disp {K : PySem.W.Frag} {f : MA} {σ : L2.St} {H : Hp} {Q : VK} (w : rdL K W c (lDisp f) σ H Q) : tLst (rdA K W c f) σ H Q := by
  obtain ⟨F, μ, S, ρ, r0, s0, p⟩ := w
  refine ⟨F, μ, S, ρ, r0, s0, p.bind0.imp fun ds F1 μ1 S1 H1 e1 r1 p1 vs hv => ?_⟩
  obtain ⟨z, p1⟩ := p1.chkB
  exact ⟨by rw [hv.length]; exact fits_le z, fun a ha => post_new p1 e1 r1 ha hv⟩
theorem opt0 {α β : Type} {K : PySem.W.Frag} {F : Fz} {μ : List Addr} {H : Hp} {S : Sto} {g : Sto → Option α} {f : α → M β} {P : β → Fz → List Addr → Sto → Hp → Prop} (h : post K F μ H (M.bind (MI.opt g) f S) P W) : ∃ a, g S = some a ∧ post K F μ H (f a S) P W := h.optB
theorem rdL_cat {K : PySem.W.Frag} {f g : ME} {σ : L2.St} {H : Hp} {Q : VK} (w : rdL K W c (lOp catL f g) σ H Q) : tOp rCat (rdE K W c f) (rdE K W c g) σ H Q := by
  obtain ⟨F, μ, S, ρ, r0, s0, p⟩ := w
  refine ⟨F, μ, S, ρ, r0, s0, p.bind0.imp fun a F1 μ1 S1 H1 e1 r1 p1 x hx => ?_⟩
  refine ⟨F1, μ1, S1, ρ, r1, s0.ext e1, (p1.bind0.ext e1).imp fun b F2 μ2 S2 H2 e2 r2 p2 y hy => ?_⟩
  have p2 : post K F μ H (M.bind (litems a) (fun xs => M.bind (litems b) fun ys => M.bind (chk (fits (xs.length + ys.length))) fun _ => M.pure (xs ++ ys)) S2) (newP K H Q) W := p2
  obtain ⟨xs, ex, p2⟩ := p2.items'
  obtain ⟨ys, ey, p2⟩ := p2.items'
  obtain ⟨z, p2⟩ := p2.chkB
  obtain ⟨q1, vs, rfl, h1, rs1⟩ := r2.list (hx.ext e2) ex
  obtain ⟨q2, us, rfl, h2, rs2⟩ := r2.list hy ey
  exact ⟨q1, q2, vs, us, rfl, rfl, h1, h2, by rw [rs1.length, rs2.length]; exact fits_le z, fun l hl => post_new p2 (e1.trans e2) r2 hl (rs1.append rs2)⟩
theorem rdL_rep {K : PySem.W.Frag} {f g : ME} {σ : L2.St} {H : Hp} {Q : VK} (w : rdL K W c (lOp repL f g) σ H Q) : tOp rRep (rdE K W c f) (rdE K W c g) σ H Q := by
  obtain ⟨F, μ, S, ρ, r0, s0, p⟩ := w
  refine ⟨F, μ, S, ρ, r0, s0, p.bind0.imp fun a F1 μ1 S1 H1 e1 r1 p1 x hx => ?_⟩
  refine ⟨F1, μ1, S1, ρ, r1, s0.ext e1, (p1.bind0.ext e1).imp fun b F2 μ2 S2 H2 e2 r2 p2 y hy => ?_⟩
  have p2 : post K F μ H (M.bind (litems a) (fun xs => match b with | .int k => M.bind (chk (repOk xs.length k)) fun _ => M.pure (List.replicate k.toNat xs).flatten | _ => bad) S2) (newP K H Q) W := p2
  obtain ⟨xs, ex, p2⟩ := p2.items'
  obtain ⟨q1, vs, rfl, h1, rs1⟩ := r2.list (hx.ext e2) ex
  cases b with
  | int k =>
    obtain ⟨z, p2⟩ := p2.chkB
    have z : -(2 ^ 63) ≤ k ∧ k < 2 ^ 63 ∧ xs.length * k.toNat ≤ sizeLine := of_decide_eq_true z
    exact ⟨q1, k, vs, rfl, hy.intI, h1, z.1, z.2.1, by rw [rs1.length]; exact z.2.2, fun l hl => post_new p2 (e1.trans e2) r2 hl (rs1.rep _)⟩
  | _ => exact p2.elim
theorem rdL_of {K : PySem.W.Frag} {f : ME} {σ : L2.St} {H : Hp} {Q : VK} (w : rdL K W c (lOf f) σ H Q) :
    tCB (fun xs H Q => ∃ p ys, xs = [.ref p] ∧ (SqL K H p ys ∨ SqT K H p ys) ∧ ∀ l, H l = none → Q (.ref l) (upd H l (.lst ys))) (tCons (rdE K W c f) tNil) σ H Q := by
  obtain ⟨F, μ, S, ρ, r0, s0, p⟩ := w
  refine ⟨F, μ, S, ρ, r0, s0, p.bind0.imp fun a F1 μ1 S1 H1 e1 r1 p1 x hx => ?_⟩
  have p1 : post K F μ H (items a S1) (newP K H Q) W := p1
  obtain ⟨xs, ex, p1⟩ := p1.opt
  obtain ⟨q1, vs, rfl, h1, rs1⟩ := r1.seq hx ex
  exact ⟨q1, vs, rfl, h1.elim (fun h => .inl h.2) .inr, fun l hl => post_new p1 e1 r1 hl rs1⟩
theorem rgV_rep {K : PySem.W.Frag} {F : Fz} {μ : List Addr} {H : Hp} (a : Int) (n : Nat) : Reps K F μ H (rangeL a n) ((List.range n).map fun i => V.int (a + (i : Nat))) := by
  induction n generalizing a with
  | zero => exact Reps.nil
  | succ n ih =>
    rw [List.range_succ_eq_map, List.map_cons, List.map_map]
    unfold rangeL
    refine Reps.cons (by simp; exact rep_int _) ?_
    have e : ((fun i : Nat => V.int (a + (i : Nat))) ∘ Nat.succ) = fun i : Nat => V.int (a + 1 + (i : Nat)) := by
      funext i
      simp only [Function.comp]
      congr 1
      omega
    rw [e]
    exact ih (a + 1)
theorem rdL_rg1 {K : PySem.W.Frag} {f : ME} {σ : L2.St} {H : Hp} {Q : VK} (w : rdL K W c (lRg1 f) σ H Q) : tLstRg (tRg1 (rdE K W c f)) σ H Q := by
  obtain ⟨F, μ, S, ρ, r0, s0, p⟩ := w
  refine ⟨F, μ, S, ρ, r0, s0, p.bind0.imp fun a F1 μ1 S1 H1 e1 r1 p1 x hx => ?_⟩
  cases a with
  | int j =>
    obtain ⟨z, p1⟩ := p1.chkB
    rw [Bool.and_eq_true] at z
    have z1 : -(2 ^ 62) ≤ j ∧ j < 2 ^ 62 := of_decide_eq_true z.1
    have z2 := fits_le z.2
    rw [sizeLine_eq] at z2
    refine ⟨j, hx.intI, ⟨by omega, by omega, z1.1, z1.2, by omega⟩, fun q hq => post_new p1 e1 r1 hq ?_⟩
    unfold rgV
    rw [Int.sub_zero]
    exact rgV_rep 0 j.toNat
  | _ => exact p1.elim
theorem rdL_rg2 {K : PySem.W.Frag} {f g : ME} {σ : L2.St} {H : Hp} {Q : VK} (w : rdL K W c (lRg2 f g) σ H Q) : tLstRg (tRg2 (rdE K W c f) (rdE K W c g)) σ H Q := by
  obtain ⟨F, μ, S, ρ, r0, s0, p⟩ := w
  refine ⟨F, μ, S, ρ, r0, s0, p.bind0.imp fun a F1 μ1 S1 H1 e1 r1 p1 x hx => ?_⟩
  refine ⟨F1, μ1, S1, ρ, r1, s0.ext e1, (p1.bind0.ext e1).imp fun b F2 μ2 S2 H2 e2 r2 p2 y hy => ?_⟩
  cases a <;> cases b <;> try exact p2.elim
  rename_i i j
  obtain ⟨z, p2⟩ := p2.chkB
  rw [Bool.and_eq_true, Bool.and_eq_true] at z
  have z0 : -(2 ^ 62) ≤ i ∧ i < 2 ^ 62 := of_decide_eq_true z.1
  have z1 : -(2 ^ 62) ≤ j ∧ j < 2 ^ 62 := of_decide_eq_true z.2.1
  have z2 := fits_le z.2.2
  rw [sizeLine_eq] at z2
  exact ⟨i, j, hx.intI, hy.intI, ⟨z0.1, z0.2, z1.1, z1.2, by omega⟩, fun q hq => post_new p2 (e1.trans e2) r2 hq (rgV_rep i (j - i).toNat)⟩
theorem sortI_perm (ns : List Int) : (sortI ns).Perm ns := by
  have ins : ∀ (x : Int) (l : List Int), (insI x l).Perm (x :: l) := by
    intro x l
    induction l with
    | nil => exact .refl _
    | cons y l ih =>
      unfold insI
      split
      · exact .refl _
      · exact (List.Perm.cons y ih).trans (.swap x y l)
  induction ns with
  | nil => exact .refl _
  | cons x ns ih => exact (ins x (sortI ns)).trans (.cons x ih)
theorem sortI_sorted (ns : List Int) : (sortI ns).Pairwise (· ≤ ·) := by
  have mem : ∀ (x : Int) (l : List Int) (y : Int), y ∈ insI x l → y = x ∨ y ∈ l := by
    intro x l
    induction l with
    | nil => intro y h; exact .inl (by simpa [insI] using h)
    | cons z l ih =>
      intro y h
      unfold insI at h
      split at h
      · rcases List.mem_cons.mp h with h | h
        · exact .inl h
        · exact .inr h
      · rcases List.mem_cons.mp h with h | h
        · exact .inr (by rw [h]; simp)
        · rcases ih y h with h | h
          · exact .inl h
          · exact .inr (List.mem_cons_of_mem _ h)
  have ins : ∀ (x : Int) (l : List Int), l.Pairwise (· ≤ ·) → (insI x l).Pairwise (· ≤ ·) := by
    intro x l
    induction l with
    | nil => intro _; simp [insI]
    | cons y l ih =>
      intro h
      unfold insI
      split
      · rename_i hxy
        refine List.pairwise_cons.mpr ⟨fun z hz => ?_, h⟩
        rcases List.mem_cons.mp hz with e | hz
        · rw [e]; exact hxy
        · exact Int.le_trans hxy ((List.pairwise_cons.mp h).1 z hz)
      · rename_i hxy
        refine List.pairwise_cons.mpr ⟨fun z hz => ?_, ih (List.pairwise_cons.mp h).2⟩
        rcases mem x l z hz with e | hz
        · omega
        · exact (List.pairwise_cons.mp h).1 z hz
  induction ns with
  | nil => exact .nil
  | cons x ns ih => exact ins x _ ih
theorem sorted_eq {xs ys : List Int} (h : xs.Perm ys) (h1 : xs.Pairwise (· ≤ ·)) (h2 : ys.Pairwise (· ≤ ·)) : xs = ys :=
  h.eq_of_pairwise (fun a b _ _ p q => Int.le_antisymm p q) h1 h2
theorem rdL_sorted {K : PySem.W.Frag} {f : ME} {σ : L2.St} {H : Hp} {Q : VK} (w : rdL K W c (lSorted f) σ H Q) : tCB (rSortedI K) (tCons (rdE K W c f) tNil) σ H Q := by
  obtain ⟨F, μ, S, ρ, r0, s0, p⟩ := w
  refine ⟨F, μ, S, ρ, r0, s0, p.bind0.imp fun a F1 μ1 S1 H1 e1 r1 p1 x hx => ?_⟩
  obtain ⟨xs, ex, p1⟩ := p1.items'
  obtain ⟨ns, en, p1⟩ := p1.ofOB
  obtain ⟨q1, vs, rfl, h1, rs1⟩ := r1.list hx ex
  refine ⟨q1, ns, rfl, by rw [← ints_of rs1 en]; exact SqL.of h1, fun ns' q hp hs hq => ?_⟩
  have : ns' = sortI ns := sorted_eq (hp.trans (sortI_perm ns).symm) hs (sortI_sorted ns)
  subst this
  exact post_new p1 e1 r1 hq (reps_ints _)
end
end MI

/-! MIS: set(a list of ints): the rule that lacked. -/
namespace MIR
open PySem PySem.Spec PyProof.Rows L2
open Sem (wp)
section
variable {P : Program} {w : World} {A : Around} {E : Value → Shared → Prop} {s : Shared}
abbrev set0 (w : World) : Obj := { cls := .type "set", dict := none, data := .set #[] 0 (.fresh 0 0 (!w.params.followText "set-order")) }
/-- what set(l) leaves -/
def SetLeft (w : World) (s : Shared) (ns : List Int) (s' : Shared) : Prop := ∃ h' tk c, s' = { s with heap := h', toks := tk } ∧ SetR w h' s.heap.objs.size (fun j => decide (j ∈ ns)) c ∧ c ≤ ns.length ∧ ∀ b o, s.heap.get? b = some o → h'.get? b = some o
set_option maxHeartbeats 3200000 in
theorem set_init_list {l : Addr} {items : Array Value} (ns : List Int) (hh : A.handled = none) (hl : s.heap.IsList l items) (hit : IntsAre items.toList ns) (hb : ns.length + 1 < scanBound) :
    wpAny (model P w) A (Builtin.«set.__init__» ⟨[.ref s.heap.objs.size, .ref l], []⟩) (fun fin s' => ∃ v, fin = .done (.ret v) ∧ v = .none ∧ SetLeft w s ns s') E { s with heap := s.heap.push (set0 w) } := by
  have hisz : items.size = ns.length := by
    have q := IntsAre.length hit
    rw [Array.length_toList] at q
    exact q
  have hS : (s.heap.push (set0 w)).get? s.heap.objs.size = some (set0 w) := Heap.get?_push_size _ rfl
  obtain ⟨⟨ocls, odict, odata, oslots⟩, hol, hcl, nl, hdl⟩ := hl
  simp only at hcl hdl
  subst hcl hdl
  have hol' : (s.heap.push (set0 w)).get? l = some { cls := .type "list", dict := odict, data := .seq items nl, slots := oslots } := Heap.get?_push_of_some _ hol
  have hsls := PySem.F.sub_list_set
  have hslf := PySem.F.sub_list_frozenset
  have hne : (Value.type "list" == Value.type "dict") = false := by decide
  have hl1 : (s.heap.push (set0 w)).IsList l items := ⟨_, hol', rfl, nl, rfl⟩
  unfold Builtin.«set.__init__» noKeywords Builtin.Frozenset.updateFrom
  generalize hPI : pyIter = PI
  wp_walk
  subst hPI
  refine wpAny_pyIter_list hl1 ?_
  refine wpAny_bind (wpAny_runValue ?_)
  have hlS : l < s.heap.objs.size := Heap.lt_size hol
  have hneI : l ≠ (s.heap.push (set0 w)).objs.size := by
    rw [Heap.size_push]; exact Nat.ne_of_lt (Nat.lt_succ_of_lt hlS)
  have hSf : s.heap.objs.size ∉ [(s.heap.push (set0 w)).objs.size, l] := by
    rw [Heap.size_push]
    simp only [List.mem_cons, List.not_mem_nil, or_false, not_or]
    exact ⟨Nat.ne_of_lt (Nat.lt_succ_self _), Nat.ne_of_gt hlS⟩
  have hval : ∀ (i : Nat) (v : Value), items[i]? = some v → ∃ k t, ns[i]? = some k ∧ v = .int k t := fun i v hv => by
    have hi : i < ns.length := by rw [← hisz]; exact (Array.getElem?_eq_some_iff.mp hv).1
    obtain ⟨t, e⟩ := PyProof.Rows.IntsAre.int_at hit i v (by rw [Array.getElem?_toList]; exact hv)
    refine ⟨ns[i], t, List.getElem?_eq_getElem hi, ?_⟩
    rw [e, List.getD_eq_getElem?_getD, List.getElem?_eq_getElem hi] <;> rfl
  refine set_update_ints ((Walks.list (by simpa using hh) _ l hneI items).toS) s.heap.objs.size hSf ns hisz hb hval (items.size - 0) 0 _ (by omega) (Nat.zero_le _) ⟨⟨_, Heap.get?_push_size _ rfl, rfl, rfl⟩, (hl1.push _)⟩ ⟨0, Nat.le_refl 0, setR_new_at (Heap.get?_push_of_some _ hS)⟩ fun s' c' hm hc' hS' => ?_
  obtain ⟨h', g2, d', tk', os'⟩ := s'
  have eg : g2 = s.gens := hm.gens
  have ed : d' = s.drawn := hm.drawn
  have eo : os' = s.os := hm.os
  subst eg ed eo
  show wpAny _ _ _ _ _ _
  refine wpAny_pure ?_
  show wpAny _ _ (ret Value.none) _ _ _
  rw [hisz] at hc'
  refine wpAny_pure ⟨_, rfl, rfl, h', tk', c', rfl, hS', hc', fun b o e => ?_⟩
  have hb0 : b < s.heap.objs.size := Heap.lt_size e
  refine hm.heap b o ?_ (Heap.get?_push_of_some _ (Heap.get?_push_of_some _ e))
  rw [Heap.size_push]
  simp only [List.mem_cons, List.not_mem_nil, or_false, not_or]
  exact ⟨Nat.ne_of_lt hb0, Nat.ne_of_lt (Nat.lt_succ_of_lt hb0)⟩
set_option maxHeartbeats 3200000 in
theorem call_set_listI {l : Addr} {items : Array Value} (ns : List Int) {Q : Value → Shared → Prop} (hh : A.handled = none) (hl : s.heap.IsList l items) (hit : IntsAre items.toList ns) (hb : ns.length + 1 < scanBound)
    (h : ∀ s', SetLeft w s ns s' → Q (.ref s.heap.objs.size) s') : wpAny (model P w) A (call (.type "set") [.ref l]) Q E s := by
  obtain ⟨c, tl, hmro⟩ := PySem.F.called_set.mro
  have hmade := PySem.F.called_set.made
  have hsub := PySem.F.called_set.sub
  refine wpAny_call (codeAny_of_tree ?_)
  show wpAny _ _ (callAny (.type "set") _) _ _ _
  refine wpAny_pure ⟨Code.quiet_builtin _ (by decide +kernel), codeAny_builtin PySem.F.entry_type_call ?_⟩
  rw [Around.under_plain (weight_type_call_type "set" [.ref l] []) rfl]
  have h1 := PySem.F.called_set.notType
  have h2 := PySem.F.called_set.canCreate
  have hct := PySem.F.typeCall_set_1 (.ref l)
  repeat (any_goals (first | assumption | wp_step))
  refine codeAny_mono (code_set_led1 (.ref l) (E := E) (Q₁ := fun obj s₁ => obj = .ref s.heap.objs.size ∧ s₁ = { s with heap := s.heap.push (set0 w) }) ⟨rfl, rfl⟩) fun r s₁ hr => ?_
  cases r with
  | error e => exact hr
  | ok fl =>
    cases fl with
    | ret obj =>
      obtain ⟨rfl, rfl⟩ := hr
      have hT : Shared.TypeIs { s with heap := s.heap.push (set0 w) } (.ref s.heap.objs.size) "set" := ⟨_, Heap.get?_push_size _ rfl, rfl⟩
      have hli := PySem.F.called_set.init.lookup
      have hbi := PySem.F.called_set.init.bind (.ref s.heap.objs.size)
      repeat (any_goals (first | assumption | wp_step))
      refine codeAny_mono (codeAny_call_builtin (R := wants (fun r s₂ => r = .none ∧ SetLeft w s ns s₂) E) PySem.F.called_set.init.plain PySem.F.entry_set_init (check_set_init_1 hT ?_)) fun r₂ s₂ hr₂ => ?_
      · refine wpAny_mono (set_init_list ns (by simpa using hh) hl hit hb) (fun fin s' hf => ?_) fun _ _ x => x
        obtain ⟨v, rfl, rfl, q⟩ := hf
        exact ⟨rfl, q⟩
      · cases r₂ with
        | error e => exact hr₂
        | ok fl₂ =>
          cases fl₂ with
          | ret r =>
            obtain ⟨rfl, q⟩ := hr₂
            repeat (any_goals (first | assumption | wp_step))
            exact h _ q
          | next => exact hr₂
          | brk => exact hr₂
          | cont => exact hr₂
    | next => exact hr
    | brk => exact hr
    | cont => exact hr
end
end MIR

namespace MI
open PySem PySem.Spec PyProof.Rows L2 RZ
/-- set(xs), a list of ints -/
def rSetLI (K : PySem.W.Frag) (w : World) : List V → Hp → VK → Prop := fun xs H Q => ∃ (a : Addr) (ns : List Int), xs = [.ref a] ∧ SqL K H a (ns.map V.int) ∧ ns.length < 64 ∧
  ∀ (p : Addr) (c : Nat), H p = none → c ≤ ns.length → Q (.ref p) (upd H p (SetO w p (fun j => decide (j ∈ ns)) c))
theorem cr_setLI {X : Cx} (hc : X.calm = true) : CallR X (.type "set") (rSetLI X.K X.w) := by
  intro pins s σ H xs us Q I r h
  obtain ⟨a, ns, rfl, hq, hl, q⟩ := h
  rw [Vals.ref1 r]
  obtain ⟨its, rv, pl, hz⟩ := I.list hq
  refine MIR.call_set_listI ns (I.ok.hd hc) pl.isList (by simpa using rv.ints) (by unfold scanBound; omega) fun s' hs => ?_
  obtain ⟨h', tk, c, rfl, R, hc', hk⟩ := hs
  exact ⟨.ref s.heap.objs.size, _, I.laid (t' := tk) hk (Nat.le_refl _) (setO_new R), rfl, q _ c (I.hok.fresh (Nat.le_refl _)) hc'⟩
theorem dedI_mem : ∀ (ns : List Int) (x : Int), x ∈ dedI ns ↔ x ∈ ns
  | [], _ => by simp [dedI]
  | y :: ns, x => by
    unfold dedI
    split
    · rename_i h
      rw [dedI_mem ns x, List.mem_cons]
      exact ⟨.inr, fun z => z.elim (fun e => e ▸ h) id⟩
    · rw [List.mem_cons, List.mem_cons, dedI_mem ns x]
theorem dedI_nodup : ∀ (ns : List Int), (dedI ns).Nodup
  | [] => List.nodup_nil
  | y :: ns => by
    unfold dedI
    split
    · exact dedI_nodup ns
    · rename_i h
      exact List.nodup_cons.mpr ⟨fun z => h ((dedI_mem ns y).mp z), dedI_nodup ns⟩
theorem sort_strict (ns : List Int) : (sortI (dedI ns)).Pairwise (· < ·) := by
  have h1 := sortI_sorted (dedI ns)
  have h2 : (sortI (dedI ns)).Nodup := (sortI_perm (dedI ns)).nodup_iff.mpr (dedI_nodup ns)
  exact (h1.and h2).imp fun {a b} h => by
    have := h.1
    have := h.2
    omega
theorem strict_eq : ∀ {xs ys : List Int}, xs.Pairwise (· < ·) → ys.Pairwise (· < ·) → (∀ k, k ∈ xs ↔ k ∈ ys) → xs = ys
  | [], [], _, _, _ => rfl
  | [], y :: ys, _, _, h => by have := (h y).mpr (by simp); cases this
  | x :: xs, [], _, _, h => by have := (h x).mp (by simp); cases this
  | x :: xs, y :: ys, h1, h2, h => by
    obtain ⟨a1, a2⟩ := List.pairwise_cons.mp h1
    obtain ⟨b1, b2⟩ := List.pairwise_cons.mp h2
    have e : x = y := by
      rcases List.mem_cons.mp ((h x).mp (by simp)) with e | e
      · exact e
      · rcases List.mem_cons.mp ((h y).mpr (by simp)) with e' | e'
        · exact e'.symm
        · have := b1 x e
          have := a1 y e'
          omega
    subst e
    rw [strict_eq a2 b2 fun k => ⟨fun z => ?_, fun z => ?_⟩]
    · rcases List.mem_cons.mp ((h k).mp (List.mem_cons_of_mem _ z)) with e | e
      · have := a1 k z; omega
      · exact e
    · rcases List.mem_cons.mp ((h k).mpr (List.mem_cons_of_mem _ z)) with e | e
      · have := b1 k z; omega
      · exact e
theorem rdL_sortedSet {K : PySem.W.Frag} {w : World} {W : XK} {c : Call} {f : ME} {σ : L2.St} {H : Hp} {Q : VK} (h : rdL K W c (lSortedSet f) σ H Q) : tCB (rSortedSet w) (tCons (tCB (rSetLI K w) (tCons (rdE K W c f) tNil)) tNil) σ H Q := by
  obtain ⟨F, μ, S, ρ, r0, s0, p⟩ := h
  refine ⟨F, μ, S, ρ, r0, s0, p.bind0.imp fun a F1 μ1 S1 H1 e1 r1 p1 x hx => ?_⟩
  obtain ⟨xs, ex, p1⟩ := p1.items'
  obtain ⟨ns, en, p1⟩ := p1.ofOB
  obtain ⟨z, p1⟩ := p1.chkB
  obtain ⟨q1, vs, rfl, h1, rs1⟩ := r1.list hx ex
  have hz : ns.length < 64 := of_decide_eq_true z
  refine ⟨q1, ns, rfl, by rw [← ints_of rs1 en]; exact SqL.of h1, hz, fun q cc hq hcc => ?_⟩
  refine ⟨q, _, cc, rfl, upd_same, by omega, fun ns' l hs hm hlen hl => ?_⟩
  have e : ns' = sortI (dedI ns) := strict_eq hs (sort_strict ns) fun k => by
    rw [hm k, (sortI_perm (dedI ns)).mem_iff, dedI_mem]
    exact ⟨of_decide_eq_true, fun h => decide_eq_true h⟩
  subst e
  have h0 : H q = none := Classical.byContradiction fun z => e1.there q z hq
  exact post_new p1 (ext_upd e1 h0) (r1.free hq _) hl (reps_ints _)
/-- len(set(xs)), a list or a tuple of ints -/
def tLenSetU (K : PySem.W.Frag) (ta : TE) : TE := fun σ H Q => ta σ H fun x H1 => ∃ (l : Addr) (ns : List Int), x = .ref l ∧ (SqL K H1 l (ns.map V.int) ∨ SqT K H1 l (ns.map V.int)) ∧ ns.length < 64 ∧ Q (.int ((dedI ns).length : Nat)) H1
theorem setR_len {w : World} {h : Heap} {a : Addr} {ns : List Int} {o : Obj} {es : Array (Int × Value)} (hn : (es.toList.map keyOf).Nodup) (hS : ∀ k, (decide (k ∈ ns)) = true ↔ k ∈ es.toList.map keyOf) : es.size = (dedI ns).length := by
  have m : ∀ k, k ∈ es.toList.map keyOf ↔ k ∈ dedI ns := fun k => by
    rw [← hS k, dedI_mem]
    exact ⟨of_decide_eq_true, fun h => decide_eq_true h⟩
  have l1 := List.Nodup.length_le_of_subset hn fun k hk => (m k).mp hk
  have l2 := List.Nodup.length_le_of_subset (dedI_nodup ns) fun k hk => (m k).mpr hk
  have e1 : (es.toList.map keyOf).length = es.size := by simp
  omega
theorem pe_lenSetU {X : Cx} {a : Expr} {ta : TE} {p p2 q pos : Pos} (hg : Gl X "len") (hm : X.mg "len" = none) (hg2 : Gl X "set") (hm2 : X.mg "set" = none) (ha : PE X a ta) (hc : X.calm = true)
    (na : starEach [a] X.env = (false, eval a X.env) :: starEach [] X.env) : PE X (.Call (.Name "len" p) [.Call (.Name "set" p2) [a] [] q] [] pos) (tLenSetU X.K ta) := by
  refine ⟨fun pins s σ H Q I h => ?_⟩
  refine Call_ (ld_blt I hg hm boot_len ?_)
  refine PyProof.Rows.callWith_builtin1 (PyProof.Rows.args_cons ?_ rfl) rfl rfl
  refine Call_ (ld_blt I hg2 hm2 boot_set ?_)
  refine PyProof.Rows.callWith_type1 (PyProof.Rows.args_cons (thn (ha.run pins s σ H _ I h) fun v s1 ⟨x, H1, I1, r1, q1⟩ => PyProof.Rows.args_nil ?_) na) na rfl
  obtain ⟨l, ns, rfl, hq, hl, q1⟩ := q1
  cases r1
  have fin : ∀ (Q2 : Value → Shared → Prop) (E2 : Value → Shared → Prop) (h' : Heap) (tk c : Nat), SetR X.w h' s1.heap.objs.size (fun j => decide (j ∈ ns)) c → (∀ b o, s1.heap.get? b = some o → h'.get? b = some o) → (∀ t s', Inv X pins σ H1 s' → Q2 (.int (dedI ns).length t) s') → wpAny (model X.prog X.w) X.A (call (.builtin "len") [.ref s1.heap.objs.size]) Q2 E2 { s1 with heap := h', toks := tk } := by
    intro Q2 E2 h' tk c R hk hQ
    obtain ⟨o, es, ep, t, ho, hex, hd, _, hn, hS, hsz, hf, _, _, _⟩ := R
    have e := setR_len (w := X.w) (h := h') (a := s1.heap.objs.size) (o := o) hn hS
    have I2 : Inv X pins σ H1 { s1 with heap := h', toks := tk } := I1.kept hk
    have hb : es.size < 64 := by
      have : ∀ ns : List Int, (dedI ns).length ≤ ns.length := fun ns => by
        induction ns with
        | nil => exact Nat.le_refl _
        | cons y ns ih => unfold dedI; split <;> simp <;> omega
      have := this ns
      omega
    refine call_len_set ho hex hd hf (by omega) ?_
    rw [e]
    exact hQ _ _ (I2.tok _)
  rcases hq with hq | hq
  · obtain ⟨its, r, pl, hz⟩ := I1.list hq
    refine MIR.call_set_listI ns (I1.ok.hd hc) pl.isList (by simpa using intsAre_vals r) (by unfold scanBound; omega) fun s' hs => ?_
    obtain ⟨h', tk, c, rfl, R, _, hk⟩ := hs
    refine PyProof.Rows.args_nil ?_
    exact fin _ _ h' tk c R hk fun t s' I => ⟨V.int (dedI ns).length, H1, I, ⟨_, rfl⟩, q1⟩
  · obtain ⟨its, r, pl, hz⟩ := I1.tuple hq
    refine call_set_tupI ns (I1.ok.hd hc) pl (by simpa using intsAre_vals r) (by unfold scanBound; omega) fun h' tk c R _ hk => ?_
    refine PyProof.Rows.args_nil ?_
    exact fin _ _ h' tk c R hk fun t s' I => ⟨V.int (dedI ns).length, H1, I, ⟨_, rfl⟩, q1⟩
theorem post.itemsU {α : Type} {K : PySem.W.Frag} {W : XK} {F : Fz} {μ : List Addr} {H : Hp} {S : Sto} {f : List D → M α} {d : D} {P : α → Fz → List Addr → Sto → Hp → Prop} (h : post K F μ H (M.bind (MI.items d) f S) P W) : ∃ ds, itemsO S d = some ds ∧ post K F μ H (f ds S) P W := by
  unfold MI.items MI.opt M.bind at h
  dsimp only at h
  cases e : itemsO S d with
  | none => rw [e] at h; exact h.elim
  | some ds => rw [e] at h; exact ⟨ds, rfl, h⟩
theorem rdE_lenSet {K : PySem.W.Frag} {W : XK} {c : Call} {f : ME} {σ : L2.St} {H : Hp} {Q : VK} (h : rdE K W c (eLenSet f) σ H Q) : tLenSetU K (rdE K W c f) σ H Q := by
  obtain ⟨F, μ, S, ρ, r0, s0, p⟩ := h
  refine ⟨F, μ, S, ρ, r0, s0, p.bind.imp fun a F1 μ1 S1 H1 e1 r1 p1 x hx => ?_⟩
  obtain ⟨xs, ex, p1⟩ := p1.itemsU
  obtain ⟨ns, en, p1⟩ := p1.ofOB
  obtain ⟨z, p1⟩ := p1.chkB
  obtain ⟨q1, vs, rfl, h1, rs1⟩ := r1.seq hx ex
  have hz : ns.length < 64 := of_decide_eq_true z
  refine ⟨q1, ns, rfl, ?_, hz, p1.val r1 (rep_int _)⟩
  rw [← ints_of rs1 en]
  exact h1.imp (fun h => h.2) id
end MI

/-! zip of any number of tuples, drawn to its end -/
namespace MIR
open PySem RZ
section
variable {M : Model} {A : Around} {E : Value → Shared → Prop}
theorem forIn_inv {α β : Type} {f : α → β → Sem (ForInStep β)} {Q : β → Shared → Prop} (I : List α → β → Shared → Prop)
    (st : ∀ x r b s, I (x :: r) b s → wpAny M A (f x b) (fun t s' => match t with | .yield b' => I r b' s' | .done b' => Q b' s') E s) (q : ∀ b s, I [] b s → Q b s) :
    ∀ (xs : List α) (b : β) (s : Shared), I xs b s → wpAny M A (forIn xs b f) Q E s
  | [], b, s, i => by
    rw [List.forIn_nil]
    exact wpAny_pure (q b s i)
  | x :: r, b, s, i => by
    rw [List.forIn_cons]
    refine wpAny_bind (wpAny_mono (st x r b s i) (fun t s' h => ?_) fun _ _ h => h)
    cases t with
    | yield b' => exact forIn_inv I st q r b' s' h
    | done b' => exact wpAny_pure h
end
abbrev ZipF (h : Heap) (z TI TO : Addr) (f0 f1 : Value) : Prop :=
  h.get? z = some { cls := .type "zip", dict := none, data := .fields #[f0, f1, .bool false, .ref TI, .ref TO], slots := #[] }
abbrev TupAt (h : Heap) (T : Addr) (xs : Array Value) : Prop := h.get? T = some { cls := .type "tuple", data := .seq xs }
def itsL (b n : Nat) : List Value := (List.range' b n).map Value.ref
structure ZIt (b n : Nat) (L : List Nat) (X : List (Array Value)) (g : Nat → Nat) (h : Heap) : Prop where
  it : ∀ k, k < n → ∃ l xs, L[k]? = some l ∧ X[k]? = some xs ∧ l < b ∧ h.IsTupleIter (b + k) l (g k) ∧ h.IsTuple l xs
theorem ZIt.step {b n k : Nat} {L : List Nat} {X : List (Array Value)} {g : Nat → Nat} {h h' : Heap} (z : ZIt b n L X g h) {l : Nat} (hk : k < n) (hl : L[k]? = some l) (hi : h'.IsTupleIter (b + k) l (g k + 1)) (sb : Heap.SameBut (b + k) h h') : ZIt b n L X (fun j => if j = k then g k + 1 else g j) h' := ⟨fun j hj => by
  obtain ⟨l', xs, e1, e2, e3, e4, e5⟩ := z.it j hj
  have ne : l' ≠ b + k := Nat.ne_of_lt (by omega)
  refine ⟨l', xs, e1, e2, e3, ?_, e5.extBut sb.extBut ne⟩
  by_cases e : j = k
  · subst e
    rw [hl] at e1
    cases e1
    rw [if_pos rfl]
    exact hi
  · rw [if_neg e]
    have ne2 : b + j ≠ b + k := fun h => e (Nat.add_left_cancel h)
    exact e4.extBut sb.extBut ne2⟩
theorem ZIt.other {b n a : Nat} {L : List Nat} {X : List (Array Value)} {g : Nat → Nat} {h h' : Heap} (z : ZIt b n L X g h) (ha : b + n ≤ a) (sb : Heap.SameBut a h h') : ZIt b n L X g h' := ⟨fun j hj => by
  obtain ⟨l', xs, e1, e2, e3, e4, e5⟩ := z.it j hj
  have n1 : b + j ≠ a := Nat.ne_of_lt (by omega)
  have n2 : l' ≠ a := Nat.ne_of_lt (by omega)
  exact ⟨l', xs, e1, e2, e3, e4.extBut sb.extBut n1, e5.extBut sb.extBut n2⟩⟩
theorem ZIt.push {b n : Nat} {L : List Nat} {X : List (Array Value)} {g : Nat → Nat} {h : Heap} (z : ZIt b n L X g h) (o : Obj) : ZIt b n L X g (h.push o) := ⟨fun j hj => by
  obtain ⟨l', xs, e1, e2, e3, e4, e5⟩ := z.it j hj
  exact ⟨l', xs, e1, e2, e3, e4.at fun _ e => Heap.get?_push_of_some _ e, e5.push _⟩⟩
end MIR

namespace MIR
open PySem RZ
/-- the state of a zip of n tuples: TI, TO, z stand behind the iterators b .. b + n - 1 -/
structure ZS (b n : Nat) (L : List Nat) (X : List (Array Value)) (g : Nat → Nat) (f0 f1 : Value) (ys : Array Value) (h : Heap) : Prop where
  zip : ZipF h (b + n + 2) (b + n) (b + n + 1) f0 f1
  ti : TupAt h (b + n) (itsL b n).toArray
  to : TupAt h (b + n + 1) ys
  it : ZIt b n L X g h
theorem ZS.step {b n k : Nat} {L : List Nat} {X : List (Array Value)} {g : Nat → Nat} {f0 f1 : Value} {ys : Array Value} {h h' : Heap} (z : ZS b n L X g f0 f1 ys h) {l : Nat} (hk : k < n) (hl : L[k]? = some l) (hi : h'.IsTupleIter (b + k) l (g k + 1)) (sb : Heap.SameBut (b + k) h h') : ZS b n L X (fun j => if j = k then g k + 1 else g j) f0 f1 ys h' := by
  have n1 : b + n + 2 ≠ b + k := Nat.ne_of_gt (by omega)
  have n2 : b + n ≠ b + k := Nat.ne_of_gt (by omega)
  have n3 : b + n + 1 ≠ b + k := Nat.ne_of_gt (by omega)
  exact ⟨sb.extBut _ _ n1 z.zip, sb.extBut _ _ n2 z.ti, sb.extBut _ _ n3 z.to, z.it.step hk hl hi sb⟩
theorem ZS.recd {b n : Nat} {L : List Nat} {X : List (Array Value)} {g : Nat → Nat} {f0 f1 e0 e1 : Value} {ys : Array Value} {h h' : Heap} (z : ZS b n L X g f0 f1 ys h) (hz : ZipF h' (b + n + 2) (b + n) (b + n + 1) e0 e1) (sb : Heap.SameBut (b + n + 2) h h') : ZS b n L X g e0 e1 ys h' := by
  have n2 : b + n ≠ b + n + 2 := Nat.ne_of_lt (by omega)
  have n3 : b + n + 1 ≠ b + n + 2 := Nat.ne_of_lt (by omega)
  exact ⟨hz, sb.extBut _ _ n2 z.ti, sb.extBut _ _ n3 z.to, z.it.other (by omega) sb⟩
theorem ZS.own {b n : Nat} {L : List Nat} {X : List (Array Value)} {g : Nat → Nat} {f0 f1 : Value} {ys zs : Array Value} {h h' : Heap} (z : ZS b n L X g f0 f1 ys h) (hz : TupAt h' (b + n + 1) zs) (sb : Heap.SameBut (b + n + 1) h h') : ZS b n L X g f0 f1 zs h' := by
  have n2 : b + n ≠ b + n + 1 := Nat.ne_of_lt (by omega)
  have n3 : b + n + 2 ≠ b + n + 1 := Nat.ne_of_gt (by omega)
  exact ⟨sb.extBut _ _ n3 z.zip, sb.extBut _ _ n2 z.ti, hz, z.it.other (by omega) sb⟩
theorem ZS.keep {b n : Nat} {L : List Nat} {X : List (Array Value)} {g : Nat → Nat} {f0 f1 : Value} {ys : Array Value} {h h' : Heap} (z : ZS b n L X g f0 f1 ys h) (k : ∀ c o, c < b + n + 3 → h.get? c = some o → h'.get? c = some o) : ZS b n L X g f0 f1 ys h' := by
  refine ⟨k _ _ (by omega) z.zip, k _ _ (by omega) z.ti, k _ _ (by omega) z.to, ⟨fun j hj => ?_⟩⟩
  obtain ⟨l, xs, e1, e2, e3, e4, e5⟩ := z.it.it j hj
  refine ⟨l, xs, e1, e2, e3, e4.at fun o e => k _ o (by omega) e, ?_⟩
  obtain ⟨o, ho, r⟩ := e5
  exact ⟨o, k l o (by omega) ho, r⟩
/-- what changed lies within the zip -/
def Within (b n : Nat) (h h' : Heap) : Prop := ∀ c o, (c < b ∨ b + n + 3 ≤ c) → h.get? c = some o → h'.get? c = some o
theorem Within.refl {b n : Nat} {h : Heap} : Within b n h h := fun _ _ _ e => e
theorem Within.trans {b n : Nat} {h h1 h2 : Heap} (a : Within b n h h1) (c : Within b n h1 h2) : Within b n h h2 := fun x o hx e => c x o hx (a x o hx e)
theorem Within.same {b n a : Nat} {h h' : Heap} (sb : Heap.SameBut a h h') (h1 : b ≤ a) (h2 : a < b + n + 3) : Within b n h h' := fun c o hc e => by
  have ne : c ≠ a := by
    intro e
    subst e
    rcases hc with hc | hc
    · exact Nat.lt_irrefl _ (Nat.lt_of_lt_of_le hc h1)
    · exact Nat.lt_irrefl _ (Nat.lt_of_lt_of_le h2 hc)
  exact sb.extBut c o ne e
/-- one drawing, k of n done -/
def stp (i k j : Nat) : Nat := if j < k then i + 1 else i
theorem stp_step (i k : Nat) : (fun j => if j = k then stp i k k + 1 else stp i k j) = stp i (k + 1) := by
  funext j
  unfold stp
  by_cases h : j = k
  · subst h
    rw [if_pos rfl, if_neg (Nat.lt_irrefl _), if_pos (Nat.lt_succ_self _)]
  · rw [if_neg h]
    by_cases h2 : j < k
    · rw [if_pos h2, if_pos (by omega)]
    · rw [if_neg h2, if_neg (by omega)]
section
variable {prog : Program} {w : World} {A : Around} {E : Value → Shared → Prop} {s : Shared}
theorem wpAny_alive {M : Model} {a : Addr} {Q : Option Obj → Shared → Prop} (h : Q (s.heap.get? a) s) : wpAny M A (loadIfAlive a) Q E s := fun _ _ _ => h
theorem isFree {z TI TO : Addr} {f0 f1 : Value} {Q : Bool → Shared → Prop} (hz : ZipF s.heap z TI TO f0 f1) (hf : f0 = .none ∨ ∃ a : Nat, f0 = rawInt a) (h1 : Q true s) (h2 : Q false s)
    (h3 : ∀ h', ZipF h' z TI TO f0 (.bool true) → Heap.SameBut z s.heap h' → Q false { s with heap := h' }) : wpAny (model prog w) A (Builtin.SmallTypes.ownedTupleIsFree (.ref z)) Q E s := by
  unfold Builtin.SmallTypes.ownedTupleIsFree
  refine wpAny_bind (wpAny_field hz rfl (x := f0) rfl ?_)
  rcases hf with rfl | ⟨a, rfl⟩
  · exact wpAny_pure h1
  · show wpAny _ _ (loadIfAlive (a : Int).toNat >>= _) _ _ _
    refine wpAny_bind (wpAny_alive ?_)
    cases s.heap.get? (a : Int).toNat with
    | none => exact wpAny_pure h1
    | some o =>
      show wpAny _ _ (field (.ref z) 1 >>= _) _ _ _
      refine wpAny_bind (wpAny_field hz rfl (x := f1) rfl ?_)
      cases h : (f1 != .bool true) with
      | false =>
        exact wpAny_pure h2
      | true =>
        refine wpAny_bind (wpAny_setField_rec hz (by simp) fun h' hz' hs => ?_)
        exact wpAny_pure (h3 h' hz' hs)
def valsL (v : Nat → Value) (n : Nat) : List Value := (List.range n).map v
theorem valsL_succ (v : Nat → Value) (n : Nat) : valsL v n ++ [v n] = valsL v (n + 1) := by
  unfold valsL
  rw [List.range_succ, List.map_append]
  rfl
theorem valsL_len (v : Nat → Value) (n : Nat) : (valsL v n).length = n := by
  unfold valsL
  rw [List.length_map, List.length_range]
theorem its_drop (b n k : Nat) (h : k < n) : (List.range' (b + k) (n - k)).map Value.ref = .ref (b + k) :: (List.range' (b + (k + 1)) (n - (k + 1))).map Value.ref := by
  rw [show n - k = (n - (k + 1)) + 1 by omega, List.range'_succ]
  rfl
theorem held_path {b n i : Nat} {L : List Nat} {X : List (Array Value)} {f0 f1 : Value} {ys : Array Value} {v : Nat → Value} {Q : Value → Shared → Prop} {f : Value → Option Fin × Array Value → Sem (ForInStep (Option Fin × Array Value))} {K : Option Fin × Array Value → Sem Fin}
    (hf : ∀ (it : Value) (acc : Array Value) (s : Shared) (Q : ForInStep (Option Fin × Array Value) → Shared → Prop), wpAny (model prog w) A (Builtin.SmallTypes.nextOf it) (fun x s' => Q (.yield (none, acc.push x)) s') E s → wpAny (model prog w) A (f it (none, acc)) Q E s)
    (hK : ∀ acc : Array Value, K (none, acc) = newTuple acc.toList >>= fun r => ret r) (hn2 : n ≤ 1000)
    (z : ZS b n L X (fun _ => i) f0 f1 ys s.heap) (hv : ∀ k, k < n → ∀ xs, X[k]? = some xs → xs[i]? = some (v k)) (hb : b + n + 3 ≤ s.heap.objs.size)
    (hQ : ∀ h', ZS b n L X (fun _ => i + 1) f0 f1 ys h' → TupAt h' s.heap.objs.size (valsL v n).toArray → h'.objs.size = s.heap.objs.size + 1 → Within b n s.heap h' → Q (.ref s.heap.objs.size) { s with heap := h' }) :
    wpAny (model prog w) A (forIn (itsL b n).toArray (none, #[]) f >>= K) (fun fin s' => ∃ v, fin = .done (.ret v) ∧ Q v s') E s := by
  refine wpAny_bind ?_
  rw [List.forIn_toArray]
  refine forIn_inv (fun xs acc s' => ∃ (k : Nat) (h' : Heap), xs = (List.range' (b + k) (n - k)).map Value.ref ∧ k ≤ n ∧ acc = (none, (valsL v k).toArray) ∧ s' = { s with heap := h' } ∧ ZS b n L X (stp i k) f0 f1 ys h' ∧ Within b n s.heap h' ∧ h'.objs.size = s.heap.objs.size) ?_ ?_ (itsL b n) _ s ⟨0, s.heap, rfl, Nat.zero_le _, rfl, rfl, by
    have e : stp i 0 = fun _ => i := by
      funext j
      unfold stp
      rw [if_neg (Nat.not_lt_zero _)]
    rw [e]
    exact z, Within.refl, rfl⟩
  · intro x r acc s' ⟨k, h', e1, lk, e2, e3, zs, wi, sz⟩
    subst e2 e3
    have hk : k < n := by
      rcases Nat.lt_or_ge k n with l | l
      · exact l
      · rw [show n - k = 0 by omega] at e1
        cases e1
    rw [its_drop b n k hk] at e1
    obtain ⟨rfl, rfl⟩ := List.cons.inj e1
    refine hf _ _ _ _ ?_
    obtain ⟨l, xs, e4, e5, e6, e7, e8⟩ := zs.it.it k hk
    have hx := hv k hk xs e5
    have e7 : h'.IsTupleIter (b + k) l i := by
      have : stp i k k = i := by unfold stp; rw [if_neg (Nat.lt_irrefl _)]
      rw [this] at e7
      exact e7
    refine nextOf_tuple_item (s := { s with heap := h' }) e7 e8 hx fun h2 hi sb => ?_
    have zs2 := zs.step (k := k) hk e4 (by
      have : stp i k k = i := by unfold stp; rw [if_neg (Nat.lt_irrefl _)]
      rw [this]
      exact hi) sb
    rw [stp_step] at zs2
    refine ⟨k + 1, h2, rfl, hk, ?_, rfl, zs2, wi.trans (Within.same sb (by omega) (by omega)), by rw [sb.1]; exact sz⟩
    rw [← valsL_succ]
    simp
  · intro acc s' ⟨k, h', e1, lk, e2, e3, zs, wi, sz⟩
    subst e2 e3
    have hk : k = n := by
      rcases Nat.lt_or_ge k n with l | l
      · rw [its_drop b n k l] at e1
        cases e1
      · omega
    subst hk
    rw [hK]
    refine wpAny_bind (wpAny_newTuple ?_ (by rw [List.toList_toArray, valsL_len]; unfold sizeLine; omega))
    refine wpAny_pure ⟨_, rfl, ?_⟩
    have e9 : stp i k = stp i k := rfl
    show Q (.ref h'.objs.size) _
    rw [sz]
    have zs3 : ZS b k L X (fun _ => i + 1) f0 f1 ys h' := ⟨zs.zip, zs.ti, zs.to, ⟨fun j hj => by
      obtain ⟨l, xs, e1, e2, e3, e4, e5⟩ := zs.it.it j hj
      refine ⟨l, xs, e1, e2, e3, ?_, e5⟩
      have : stp i k j = i + 1 := by unfold stp; rw [if_pos hj]
      rw [this] at e4
      exact e4⟩⟩
    refine hQ _ (zs3.keep fun c o hc e => Heap.get?_push_of_some _ e) ?_ (by rw [Heap.size_push, sz]) (wi.trans fun c o _ e => Heap.get?_push_of_some _ e)
    rw [← sz]
    exact Heap.get?_push_size _ rfl
theorem zipIdx_drop (b n k : Nat) (h : k < n) : ((List.range' (b + k) (n - k)).map Value.ref).zipIdx k = (.ref (b + k), k) :: ((List.range' (b + (k + 1)) (n - (k + 1))).map Value.ref).zipIdx (k + 1) := by
  rw [its_drop b n k h]
  rfl
theorem free_path {b n i : Nat} {L : List Nat} {X : List (Array Value)} {f1 : Value} {ys : Array Value} {v : Nat → Value} {Q : Value → Shared → Prop} {f : Value × Nat → Option Fin × Unit → Sem (ForInStep (Option Fin × Unit))} {K : Option Fin × Unit → Sem Fin}
    (hf : ∀ (it : Value) (k : Nat) (s : Shared) (Q : ForInStep (Option Fin × Unit) → Shared → Prop), (∀ E' : Value → Shared → Prop, wpAny (model prog w) A (Builtin.SmallTypes.nextOf it) (fun x s' => ∃ zs : Array Value, TupAt s'.heap (b + n + 1) zs ∧ zs.size ≤ 1000 ∧ ∀ h'', TupAt h'' (b + n + 1) (zs.setIfInBounds k x) → Heap.SameBut (b + n + 1) s'.heap h'' → Q (.yield (none, ())) { s' with heap := h'' }) E' s) → wpAny (model prog w) A (f (it, k) (none, ())) Q E s)
    (hK : ∀ (s : Shared) (zs : Array Value) (f1 : Value) (Q : Fin → Shared → Prop), ZipF s.heap (b + n + 2) (b + n) (b + n + 1) .ellipsis f1 → TupAt s.heap (b + n + 1) zs → zs.size ≤ 1000 → b + n + 3 ≤ s.heap.objs.size → (∀ h' , ZipF h' (b + n + 2) (b + n) (b + n + 1) (rawInt (s.heap.objs.size : Nat)) (.bool false) → (∀ c o, c ≠ b + n + 2 → s.heap.get? c = some o → h'.get? c = some o) → TupAt h' s.heap.objs.size zs → h'.objs.size = s.heap.objs.size + 1 → Q (.done (.ret (.ref s.heap.objs.size))) { s with heap := h' }) → wpAny (model prog w) A (K (none, ())) Q E s) (hn2 : n ≤ 1000)
    (z : ZS b n L X (fun _ => i) .ellipsis f1 ys s.heap) (hy : ys.size = n) (hv : ∀ k, k < n → ∀ xs, X[k]? = some xs → xs[i]? = some (v k)) (hb : b + n + 3 ≤ s.heap.objs.size)
    (hQ : ∀ h' a e1 ys', ZS b n L X (fun _ => i + 1) (rawInt (a : Nat)) e1 ys' h' → ys'.size = n → TupAt h' s.heap.objs.size (valsL v n).toArray → h'.objs.size = s.heap.objs.size + 1 → Within b n s.heap h' → Q (.ref s.heap.objs.size) { s with heap := h' }) :
    wpAny (model prog w) A (forIn (itsL b n).zipIdx (none, ()) f >>= K) (fun fin s' => ∃ v, fin = .done (.ret v) ∧ Q v s') E s := by
  refine wpAny_bind ?_
  refine forIn_inv (fun xs acc s' => ∃ (k : Nat) (h' : Heap) (zs : Array Value), xs = ((List.range' (b + k) (n - k)).map Value.ref).zipIdx k ∧ k ≤ n ∧ acc = (none, ()) ∧ s' = { s with heap := h' } ∧ ZS b n L X (stp i k) .ellipsis f1 zs h' ∧ zs.size = n ∧ (∀ j, j < k → zs[j]? = some (v j)) ∧ Within b n s.heap h' ∧ h'.objs.size = s.heap.objs.size) ?_ ?_ (itsL b n).zipIdx _ s ⟨0, s.heap, ys, rfl, Nat.zero_le _, rfl, rfl, by
    have e : stp i 0 = fun _ => i := by
      funext j
      unfold stp
      rw [if_neg (Nat.not_lt_zero _)]
    rw [e]
    exact z, hy, fun j hj => absurd hj (Nat.not_lt_zero _), Within.refl, rfl⟩
  · intro x r acc s' ⟨k, h', zs0, e1, lk, e2, e3, zs, sy, sv, wi, sz⟩
    subst e2 e3
    have hk : k < n := by
      rcases Nat.lt_or_ge k n with l | l
      · exact l
      · rw [show n - k = 0 by omega] at e1
        cases e1
    rw [zipIdx_drop b n k hk] at e1
    obtain ⟨rfl, rfl⟩ := List.cons.inj e1
    refine hf _ _ _ _ fun E' => ?_
    obtain ⟨l, xs, e4, e5, e6, e7, e8⟩ := zs.it.it k hk
    have hx := hv k hk xs e5
    have e7 : h'.IsTupleIter (b + k) l i := by
      have : stp i k k = i := by unfold stp; rw [if_neg (Nat.lt_irrefl _)]
      rw [this] at e7
      exact e7
    refine nextOf_tuple_item (s := { s with heap := h' }) e7 e8 hx fun h2 hi sb => ?_
    have zs2 := zs.step (k := k) hk e4 (by
      have : stp i k k = i := by unfold stp; rw [if_neg (Nat.lt_irrefl _)]
      rw [this]
      exact hi) sb
    rw [stp_step] at zs2
    have w2 : Within b n s.heap h2 := wi.trans (Within.same sb (by omega) (by omega))
    refine ⟨zs0, zs2.to, by omega, fun h3 t3 sb3 => ?_⟩
    refine ⟨k + 1, h3, zs0.setIfInBounds k (v k), rfl, hk, rfl, rfl, zs2.own t3 sb3, by rw [Array.size_setIfInBounds]; exact sy, fun j hj => ?_, w2.trans (Within.same sb3 (by omega) (by omega)), by rw [sb3.1]; show h2.objs.size = _; rw [sb.1]; exact sz⟩
    by_cases e : j = k
    · subst e
      rw [Array.getElem?_setIfInBounds_self_of_lt (by omega)]
    · rw [Array.getElem?_setIfInBounds_ne (Ne.symm e)]
      exact sv j (by omega)
  · intro acc s' ⟨k, h', zs0, e1, lk, e2, e3, zs, sy, sv, wi, sz⟩
    subst e2 e3
    have hk : k = n := by
      rcases Nat.lt_or_ge k n with l | l
      · rw [zipIdx_drop b n k l] at e1
        cases e1
      · omega
    subst hk
    have ez : zs0 = (valsL v k).toArray := by
      refine Array.ext_getElem? fun j => ?_
      rcases Nat.lt_or_ge j k with l | l
      · rw [sv j l]
        unfold valsL
        rw [List.getElem?_toArray, List.getElem?_map, List.getElem?_range l]
        rfl
      · rw [Array.getElem?_eq_none (by omega), Array.getElem?_eq_none (by rw [List.size_toArray, valsL_len]; exact l)]
    refine hK { s with heap := h' } zs0 f1 _ zs.zip zs.to (by omega) (by show b + k + 3 ≤ h'.objs.size; omega) fun h2 hz2 kp t2 sz2 => ?_
    refine ⟨_, rfl, ?_⟩
    show Q (.ref h'.objs.size) _
    have t3 : TupAt h2 h'.objs.size zs0 := t2
    have s3 : h2.objs.size = h'.objs.size + 1 := sz2
    rw [sz] at t3 s3
    rw [ez] at t3
    have zs3 : ZS b k L X (fun _ => i + 1) .ellipsis f1 zs0 h' := ⟨zs.zip, zs.ti, zs.to, ⟨fun j hj => by
      obtain ⟨l, xs, e1, e2, e3, e4, e5⟩ := zs.it.it j hj
      refine ⟨l, xs, e1, e2, e3, ?_, e5⟩
      have : stp i k j = i + 1 := by unfold stp; rw [if_pos hj]
      rw [this] at e4
      exact e4⟩⟩
    have n2 : b + k ≠ b + k + 2 := Nat.ne_of_lt (by omega)
    have n3 : b + k + 1 ≠ b + k + 2 := Nat.ne_of_lt (by omega)
    have zs4 : ZS b k L X (fun _ => i + 1) (rawInt (h'.objs.size : Nat)) (.bool false) zs0 h2 := ⟨hz2, kp _ _ n2 zs3.ti, kp _ _ n3 zs3.to, ⟨fun j hj => by
      obtain ⟨l, xs, e1, e2, e3, e4, e5⟩ := zs3.it.it j hj
      have m1 : b + j ≠ b + k + 2 := Nat.ne_of_lt (by omega)
      have m2 : l ≠ b + k + 2 := Nat.ne_of_lt (by omega)
      refine ⟨l, xs, e1, e2, e3, e4.at fun o e => kp _ o m1 e, ?_⟩
      obtain ⟨o, ho, r⟩ := e5
      exact ⟨o, kp l o m2 ho, r⟩⟩⟩
    rw [sz]
    refine hQ h2 _ _ _ zs4 sy t3 s3 (wi.trans fun c o hc e => kp c o ?_ e)
    intro e
    subst e
    rcases hc with hc | hc
    · exact absurd hc (by omega)
    · exact absurd hc (by omega)
theorem next_item {b n i : Nat} {L : List Nat} {X : List (Array Value)} {f0 f1 : Value} {ys : Array Value} {v : Nat → Value} {Q : Value → Shared → Prop} (hn : 1 ≤ n) (hn2 : n ≤ 1000) (hf : f0 = .none ∨ ∃ a : Nat, f0 = rawInt a)
    (z : ZS b n L X (fun _ => i) f0 f1 ys s.heap) (hy : ys.size = n) (hv : ∀ k, k < n → ∀ xs, X[k]? = some xs → xs[i]? = some (v k)) (hb : b + n + 3 ≤ s.heap.objs.size)
    (hQ : ∀ h' e0 e1 ys', (e0 = .none ∨ ∃ a : Nat, e0 = rawInt a) → ZS b n L X (fun _ => i + 1) e0 e1 ys' h' → ys'.size = n → TupAt h' s.heap.objs.size (valsL v n).toArray → h'.objs.size = s.heap.objs.size + 1 → Within b n s.heap h' → Q (.ref s.heap.objs.size) { s with heap := h' }) :
    wpAny (model prog w) A (Builtin.«zip.__next__» ⟨[.ref (b + n + 2)], []⟩) (fun fin s' => ∃ v, fin = .done (.ret v) ∧ Q v s') E s := by
  have hz := z.zip
  show wpAny _ _ (field (.ref (b + n + 2)) 2 >>= _) _ _ _
  refine wpAny_bind (wpAny_field hz rfl (x := .bool false) rfl ?_)
  show wpAny _ _ (field (.ref (b + n + 2)) 3 >>= _) _ _ _
  refine wpAny_bind (wpAny_field hz rfl (x := .ref (b + n)) rfl ?_)
  refine wpAny_bind (wpAny_seqItems z.ti rfl ?_)
  have hemp : (itsL b n).toArray.isEmpty = false := by
    obtain ⟨m, rfl⟩ : ∃ m, n = m + 1 := ⟨n - 1, by omega⟩
    rfl
  show wpAny _ _ (if (itsL b n).toArray.isEmpty = true then _ else _) _ _ _
  rw [hemp, if_neg (by decide)]
  show wpAny _ _ (Builtin.SmallTypes.ownedTupleIsFree (.ref (b + n + 2)) >>= _) _ _ _
  refine wpAny_bind ?_
  refine isFree hz hf ?_ ?_ fun h' hz' hs => ?_
  · simp only [if_true]
    refine wpAny_bind (wpAny_rule ?_)
    refine wpAny_bind (wpAny_field hz rfl (x := .ref (b + n + 1)) rfl ?_)
    refine wpAny_bind (wpAny_setField_rec hz (by simp) fun h₁ hz₁ hs₁ => ?_)
    replace hz₁ : ZipF h₁ (b + n + 2) (b + n) (b + n + 1) .ellipsis f1 := hz₁
    have z1 := z.recd hz₁ hs₁
    have w1 : Within b n s.heap h₁ := Within.same hs₁ (by omega) (by omega)
    have sz0 : h₁.objs.size = s.heap.objs.size := hs₁.1
    refine free_path (s := { s with heap := h₁ }) (fun it k s Q h => ?_) (fun s zs f1 Q hz ht hzs hsz hq => ?_) hn2 z1 hy hv (by show b + n + 3 ≤ h₁.objs.size; omega) fun h2 a e1 ys' z' sy' t' sz wi => ?_
    · refine wpAny_bind (wpAny_onRaise ?_)
      show wpAny _ _ (Builtin.SmallTypes.nextOf it >>= _) _ _ _
      refine wpAny_bind (wpAny_mono (h _) (fun x s' hx => ?_) fun _ _ h => h)
      obtain ⟨zs, ht, hzs, hq⟩ := hx
      refine wpAny_pure ?_
      refine wpAny_bind (wpAny_seqItems ht rfl ?_)
      refine wpAny_bind (wpAny_updateSeq ht rfl ?_ (by unfold sizeLine; omega) (by rw [Array.size_setIfInBounds]; unfold sizeLine; omega))
      refine wpAny_bind (wpAny_letGo (wpAny_pure ?_))
      refine hq _ ?_ (Heap.SameBut.update ..)
      exact (Heap.get?_update_self (Obj.mapSeq _) ht rfl).trans (by simp [Obj.mapSeq])
    · refine wpAny_bind (wpAny_seqItems ht rfl ?_)
      refine wpAny_bind (wpAny_newTuple ?_ (by rw [Array.length_toList]; unfold sizeLine; omega))
      refine wpAny_bind ?_
      unfold Builtin.SmallTypes.ownedTupleHandOut
      have hz6 : ZipF (s.heap.push { cls := .type "tuple", data := .seq zs.toList.toArray }) (b + n + 2) (b + n) (b + n + 1) .ellipsis f1 := Heap.get?_push_of_some _ hz
      refine wpAny_bind (wpAny_setField_rec hz6 (by simp) fun h7 hz7 hs7 => ?_)
      replace hz7 : ZipF h7 (b + n + 2) (b + n) (b + n + 1) (rawInt (s.heap.objs.size : Nat)) f1 := hz7
      refine wpAny_setField_rec hz7 (by simp) fun h8 hz8 hs8 => ?_
      refine wpAny_pure ?_
      have up : ∀ c o, c ≠ b + n + 2 → s.heap.get? c = some o → h8.get? c = some o := fun c o c1 e => hs8.extBut _ _ c1 (hs7.extBut _ _ c1 (Heap.get?_push_of_some _ e))
      have ne : s.heap.objs.size ≠ b + n + 2 := Nat.ne_of_gt (by omega)
      refine hq h8 hz8 up ?_ (by rw [hs8.1, hs7.1, Heap.size_push])
      have := hs8.extBut _ _ ne (hs7.extBut _ _ ne (Heap.get?_push_size _ rfl))
      simpa using this
    · have t2 : TupAt h2 s.heap.objs.size (valsL v n).toArray := by rw [← sz0]; exact t'
      have q := hQ h2 (rawInt (a : Nat)) e1 ys' (.inr ⟨a, rfl⟩) z' sy' t2 (by rw [← sz0]; exact sz) (w1.trans wi)
      show Q (.ref h₁.objs.size) _
      rw [sz0]
      exact q
  · simp only [if_false, Bool.false_eq_true]
    refine held_path (fun it acc s Q h => ?_) (fun acc => rfl) hn2 z hv hb fun h' z' t' sz wi => hQ h' f0 f1 ys hf z' hy t' sz wi
    refine wpAny_bind (wpAny_holding ?_)
    show wpAny _ _ (Builtin.SmallTypes.nextOf it >>= _) _ _ _
    refine wpAny_bind (wpAny_mono h (fun x s' hx => ?_) fun _ _ h => h)
    exact wpAny_pure (wpAny_pure hx)
  · have z1 := z.recd hz' hs
    simp only [if_false, Bool.false_eq_true]
    have w1 : Within b n s.heap h' := Within.same hs (by omega) (by omega)
    refine held_path (s := { s with heap := h' }) (fun it acc s Q h => ?_) (fun acc => rfl) hn2 z1 hv (by show b + n + 3 ≤ h'.objs.size; rw [hs.1]; exact hb) fun h2 z' t' sz wi => ?_
    · refine wpAny_bind (wpAny_holding ?_)
      show wpAny _ _ (Builtin.SmallTypes.nextOf it >>= _) _ _ _
      refine wpAny_bind (wpAny_mono h (fun x s' hx => ?_) fun _ _ h => h)
      exact wpAny_pure (wpAny_pure hx)
    · have sz0 : h'.objs.size = s.heap.objs.size := hs.1
      have t2 : TupAt h2 s.heap.objs.size (valsL v n).toArray := by rw [← sz0]; exact t'
      have q := hQ h2 f0 (.bool true) ys hf z' hy t2 (by rw [← sz0]; exact sz) (w1.trans wi)
      show Q (.ref h'.objs.size) _
      rw [sz0]
      exact q
end
end MIR

namespace MIR
open PySem RZ
section
variable {prog : Program} {w : World} {A : Around} {E : Value → Shared → Prop} {s : Shared}
theorem next_end {b n i : Nat} {L : List Nat} {X : List (Array Value)} {f0 f1 : Value} {ys : Array Value} {Q : Fin → Shared → Prop} (hh : A.handled = none) (hn : 1 ≤ n) (hf : f0 = .none ∨ ∃ a : Nat, f0 = rawInt a)
    (z : ZS b n L X (fun _ => i) f0 f1 ys s.heap) (hx : ∀ xs, X[0]? = some xs → xs[i]? = none)
    (hE : ∀ h' e, Within b n s.heap h' → (∃ o, h'.get? e = some o ∧ o.cls = .type "StopIteration") → E (.ref e) { s with heap := h' }) :
    wpAny (model prog w) A (Builtin.«zip.__next__» ⟨[.ref (b + n + 2)], []⟩) Q E s := by
  have hz := z.zip
  obtain ⟨m, rfl⟩ : ∃ m, n = m + 1 := ⟨n - 1, by omega⟩
  obtain ⟨l, xs, e1, e2, e3, e4, e5⟩ := z.it.it 0 hn
  have hx := hx xs e2
  have hd : itsL b (m + 1) = .ref b :: (List.range' (b + 1) m).map Value.ref := by
    unfold itsL
    rw [List.range'_succ]
    rfl
  have i0 : s.heap.IsTupleIter b l i := e4
  have nb : b ≠ b + (m + 1) + 2 := Nat.ne_of_lt (by omega)
  have nl : l ≠ b + (m + 1) + 2 := Nat.ne_of_lt (by omega)
  show wpAny _ _ (field (.ref (b + (m + 1) + 2)) 2 >>= _) _ _ _
  refine wpAny_bind (wpAny_field hz rfl (x := .bool false) rfl ?_)
  show wpAny _ _ (field (.ref (b + (m + 1) + 2)) 3 >>= _) _ _ _
  refine wpAny_bind (wpAny_field hz rfl (x := .ref (b + (m + 1))) rfl ?_)
  refine wpAny_bind (wpAny_seqItems z.ti rfl ?_)
  show wpAny _ _ (if (itsL b (m + 1)).toArray.isEmpty = true then _ else _) _ _ _
  rw [show (itsL b (m + 1)).toArray.isEmpty = false from rfl, if_neg (by decide)]
  show wpAny _ _ (Builtin.SmallTypes.ownedTupleIsFree (.ref (b + (m + 1) + 2)) >>= _) _ _ _
  refine wpAny_bind ?_
  refine isFree hz hf ?_ ?_ fun h' hz' hs => ?_
  · simp only [if_true]
    refine wpAny_bind (wpAny_rule ?_)
    refine wpAny_bind (wpAny_field hz rfl (x := .ref (b + (m + 1) + 1)) rfl ?_)
    refine wpAny_bind (wpAny_setField_rec hz (by simp) fun h₁ hz₁ hs₁ => ?_)
    replace hz₁ : ZipF h₁ (b + (m + 1) + 2) (b + (m + 1)) (b + (m + 1) + 1) .ellipsis f1 := hz₁
    refine wpAny_bind ?_
    rw [hd]
    simp only [List.zipIdx_cons, List.forIn_cons]
    refine wpAny_bind (wpAny_bind (wpAny_onRaise ?_))
    show wpAny _ _ (Builtin.SmallTypes.nextOf (.ref b) >>= _) _ _ _
    refine wpAny_bind (nextOf_tuple_end hh (i0.extBut hs₁.extBut nb) (e5.extBut hs₁.extBut nl) hx fun h₂ e hs₂ he => ?_)
    obtain ⟨oe, hoe, hce⟩ := he
    have hz₂ : ZipF h₂ (b + (m + 1) + 2) (b + (m + 1)) (b + (m + 1) + 1) .ellipsis f1 := hs₂ _ _ nb.symm hz₁
    have hez : e ≠ b + (m + 1) + 2 := fun x => by subst x; rw [hz₂] at hoe; cases hoe; simp at hce
    refine wpAny_setField_rec hz₂ (by simp) fun h₃ _ hs₃ => hE h₃ e ((Within.same hs₁ (by omega) (by omega)).trans (Within.trans (fun c o hc x => hs₂ c o ?_ x) (Within.same hs₃ (by omega) (by omega)))) ⟨oe, hs₃.extBut _ _ hez hoe, hce⟩
    intro e
    subst e
    rcases hc with hc | hc
    · exact Nat.lt_irrefl _ hc
    · exact absurd hc (by omega)
  · simp only [if_false, Bool.false_eq_true]
    refine wpAny_bind ?_
    rw [List.forIn_toArray, hd, List.forIn_cons]
    refine wpAny_bind (wpAny_bind (wpAny_holding ?_))
    show wpAny _ _ (Builtin.SmallTypes.nextOf (.ref b) >>= _) _ _ _
    refine wpAny_bind (nextOf_tuple_end hh i0 e5 hx fun h₂ e hs₂ he => hE h₂ e (fun c o hc x => hs₂ c o ?_ x) he)
    intro e
    subst e
    rcases hc with hc | hc
    · exact Nat.lt_irrefl _ hc
    · exact absurd hc (by omega)
  · simp only [if_false, Bool.false_eq_true]
    refine wpAny_bind ?_
    rw [List.forIn_toArray, hd, List.forIn_cons]
    refine wpAny_bind (wpAny_bind (wpAny_holding ?_))
    show wpAny _ _ (Builtin.SmallTypes.nextOf (.ref b) >>= _) _ _ _
    refine wpAny_bind (nextOf_tuple_end (s := { s with heap := h' }) hh (i0.extBut hs.extBut nb) (e5.extBut hs.extBut nl) hx fun h₂ e hs₂ he => hE h₂ e ((Within.same hs (by omega) (by omega)).trans fun c o hc x => hs₂ c o ?_ x) he)
    intro e
    subst e
    rcases hc with hc | hc
    · exact Nat.lt_irrefl _ hc
    · exact absurd hc (by omega)
theorem pyNext_item {b n i : Nat} {L : List Nat} {X : List (Array Value)} {f0 f1 : Value} {ys : Array Value} {v : Nat → Value} {Q : Option Value → Shared → Prop} (hn : 1 ≤ n) (hn2 : n ≤ 1000) (hf : f0 = .none ∨ ∃ a : Nat, f0 = rawInt a)
    (z : ZS b n L X (fun _ => i) f0 f1 ys s.heap) (hy : ys.size = n) (hv : ∀ k, k < n → ∀ xs, X[k]? = some xs → xs[i]? = some (v k)) (hb : b + n + 3 ≤ s.heap.objs.size)
    (hQ : ∀ h' e0 e1 ys', (e0 = .none ∨ ∃ a : Nat, e0 = rawInt a) → ZS b n L X (fun _ => i + 1) e0 e1 ys' h' → ys'.size = n → TupAt h' s.heap.objs.size (valsL v n).toArray → h'.objs.size = s.heap.objs.size + 1 → Within b n s.heap h' → Q (some (.ref s.heap.objs.size)) { s with heap := h' }) :
    wpAny (model prog w) A (pyNext (.ref (b + n + 2))) Q E s := by
  have hT : s.TypeIs (.ref (b + n + 2)) "zip" := ⟨_, z.zip, rfl⟩
  unfold pyNext
  exact wpAny_bind (wpAny_attempt (wpAny_callSpecial?_slot (name := Str.ofString "__next__") hT F.slot_zip_next
    (wpAny_call_entry F.slot_zip_next hT F.entry_zip_next
      (next_item hn hn2 hf z hy hv hb fun h' e0 e1 ys' a1 a2 a3 a4 a5 a6 => wpAny_pure (hQ h' e0 e1 ys' a1 a2 a3 a4 a5 a6)) (F.args_zip_next_1 _))))
theorem pyNext_end {b n i : Nat} {L : List Nat} {X : List (Array Value)} {f0 f1 : Value} {ys : Array Value} {Q : Option Value → Shared → Prop} (hh : A.handled = none) (hn : 1 ≤ n) (hf : f0 = .none ∨ ∃ a : Nat, f0 = rawInt a)
    (z : ZS b n L X (fun _ => i) f0 f1 ys s.heap) (hx : ∀ xs, X[0]? = some xs → xs[i]? = none)
    (hQ : ∀ h', Within b n s.heap h' → Q none { s with heap := h' }) : wpAny (model prog w) A (pyNext (.ref (b + n + 2))) Q E s := by
  have hT : s.TypeIs (.ref (b + n + 2)) "zip" := ⟨_, z.zip, rfl⟩
  unfold pyNext
  refine wpAny_bind (wpAny_attempt (wpAny_callSpecial?_slot (name := Str.ofString "__next__") hT F.slot_zip_next
    (wpAny_call_entry F.slot_zip_next hT F.entry_zip_next (next_end hh hn hf z hx fun h' e hk he => ?_) (F.args_zip_next_1 _))))
  obtain ⟨o, ho, hc⟩ := he
  refine wpAny_bind (wpAny_isInstance (T := "StopIteration") (b := true) ⟨o, ho, hc⟩ isSubtype_stop ?_)
  exact wpAny_pure (hQ _ hk)
end
end MIR

namespace MIR
open PySem RZ
section
variable {prog : Program} {w : World} {A : Around} {E : Value → Shared → Prop} {s : Shared}
def titO (l : Addr) : Obj := { cls := .type "tuple_iterator", data := .fields #[.ref l, .int 0 0] }
structure Iters (b n : Nat) (L : List Nat) (h h' : Heap) : Prop where
  size : h'.objs.size = b + n
  it : ∀ k, k < n → ∃ l, L[k]? = some l ∧ h'.get? (b + k) = some (titO l)
  keep : ∀ c o, h.get? c = some o → h'.get? c = some o
theorem itsL_succ (b n : Nat) : itsL b (n + 1) = itsL b n ++ [.ref (b + n)] := by
  unfold itsL
  rw [List.range'_concat, List.map_append]
  simp
theorem iterAll_ok {L : List Nat} {X : List (Array Value)} {Q : List Value → Shared → Prop} (ht : ∀ k, k < L.length → ∃ l xs, L[k]? = some l ∧ X[k]? = some xs ∧ s.heap.IsTuple l xs)
    (hQ : ∀ h', Iters s.heap.objs.size L.length L s.heap h' → Q (itsL s.heap.objs.size L.length) { s with heap := h' }) :
    wpAny (model prog w) A (Builtin.SmallTypes.iterAll (L.map Value.ref)) Q E s := by
  unfold Builtin.SmallTypes.iterAll
  refine wpAny_bind ?_
  refine forIn_inv (fun r acc s' => ∃ (k : Nat) (h' : Heap), r = (L.drop k).map Value.ref ∧ k ≤ L.length ∧ acc = (itsL s.heap.objs.size k).toArray ∧ s' = { s with heap := h' } ∧ Iters s.heap.objs.size k L s.heap h') ?_ ?_ _ _ s ⟨0, s.heap, rfl, Nat.zero_le _, rfl, rfl, rfl, fun k h => absurd h (Nat.not_lt_zero _), fun _ _ e => e⟩
  · intro x r acc s' ⟨k, h', e1, lk, e2, e3, I⟩
    subst e2 e3
    have hk : k < L.length := by
      rcases Nat.lt_or_ge k L.length with l | l
      · exact l
      · rw [List.drop_eq_nil_of_le l] at e1
        cases e1
    obtain ⟨l, xs, g1, g2, g3⟩ := ht k hk
    rw [List.drop_eq_getElem_cons hk] at e1
    obtain ⟨rfl, rfl⟩ := List.cons.inj e1
    have gl : L[k] = l := by
      rw [List.getElem?_eq_getElem hk] at g1
      exact Option.some.inj g1
    rw [gl]
    refine wpAny_bind (wpAny_holding (wpAny_pyIter_tuple (s := { s with heap := h' }) (items := xs) (g3.at fun o e => I.keep _ _ e) ?_))
    refine wpAny_pure ?_
    refine ⟨k + 1, _, rfl, hk, ?_, rfl, ?_, fun j hj => ?_, fun c o e => Heap.get?_push_of_some _ (I.keep c o e)⟩
    · show (itsL s.heap.objs.size k).toArray.push (.ref h'.objs.size) = _
      rw [I.size, itsL_succ]
      simp
    · rw [Heap.size_push]
      show h'.objs.size + 1 = _
      rw [I.size]
      rfl
    · rcases Nat.lt_or_ge j k with lt | ge
      · obtain ⟨l', a1, a2⟩ := I.it j lt
        exact ⟨l', a1, Heap.get?_push_of_some _ a2⟩
      · have : j = k := by omega
        subst this
        refine ⟨l, g1, ?_⟩
        show Heap.get? _ (s.heap.objs.size + j) = _
        rw [← I.size]
        exact Heap.get?_push_size _ rfl
  · intro acc s' ⟨k, h', e1, lk, e2, e3, I⟩
    subst e2 e3
    have hk : k = L.length := by
      rcases Nat.lt_or_ge k L.length with l | l
      · rw [List.drop_eq_getElem_cons l] at e1
        cases e1
      · omega
    subst hk
    exact wpAny_pure (hQ h' I)
theorem meets_zip_many {L : List Nat} {X : List (Array Value)} (hn : L.length ≤ 1000) :
    Meets (Builtin.«zip.__new__» ⟨.type "zip" :: L.map Value.ref, []⟩) (fun _ R s => (∀ k, k < L.length → ∃ l xs, L[k]? = some l ∧ X[k]? = some xs ∧ s.heap.IsTuple l xs) ∧
      (∀ h', ZS s.heap.objs.size L.length L X (fun _ => 0) .none (.bool false) (Array.replicate L.length .none) h' → h'.objs.size = s.heap.objs.size + L.length + 3 → (∀ c o, s.heap.get? c = some o → h'.get? c = some o) → R (.ok (.ret (.ref (s.heap.objs.size + L.length + 2)))) { s with heap := h' })) :=
  .of_wp fun prog w A R s h => by
    obtain ⟨ht, h⟩ := h
    unfold Builtin.«zip.__new__»
    refine wpAny_bind ?_
    unfold Builtin.SmallTypes.newClass
    refine wpAny_bind (wpAny_of_eq (a := true) rfl ?_)
    refine wpAny_bind (wpAny_of_eq (a := true) sub_zip ?_)
    refine wpAny_pure ?_
    refine wpAny_bind (iterAll_ok ht fun h' I => ?_)
    refine wpAny_bind (wpAny_newTuple ?_ (by unfold itsL sizeLine; simp; omega))
    refine wpAny_bind (wpAny_newTuple ?_ (by unfold itsL sizeLine; simp; omega))
    show wpAny _ _ (newObj (.type "zip") (.fields #[.none, .bool false, .bool false, .ref h'.objs.size, .ref (h'.push { cls := .type "tuple", data := .seq (itsL s.heap.objs.size L.length).toArray }).objs.size]) >>= _) _ _ _
    refine wpAny_bind (wpAny_newObj_type ?_)
    refine wpAny_pure ⟨_, rfl, ?_⟩
    have z1 : h'.objs.size = s.heap.objs.size + L.length := I.size
    have z2 : (h'.push { cls := .type "tuple", data := .seq (itsL s.heap.objs.size L.length).toArray }).objs.size = s.heap.objs.size + L.length + 1 := by rw [Heap.size_push, z1]
    have z3 : ((h'.push { cls := .type "tuple", data := .seq (itsL s.heap.objs.size L.length).toArray }).push { cls := .type "tuple", data := .seq ((itsL s.heap.objs.size L.length).map fun _ => Value.none).toArray }).objs.size = s.heap.objs.size + L.length + 2 := by rw [Heap.size_push, z2]
    show R (.ok (.ret (.ref (Heap.push _ _).objs.size))) _
    rw [z3]
    refine h _ ⟨?_, ?_, ?_, ⟨fun k hk => ?_⟩⟩ ?_ fun c o e => Heap.get?_push_of_some _ (Heap.get?_push_of_some _ (Heap.get?_push_of_some _ (I.keep c o e)))
    · show Heap.get? _ _ = _
      rw [← z3, ← z2, ← z1]
      exact Heap.get?_push_size _ rfl
    · show Heap.get? _ _ = _
      rw [← z1]
      exact Heap.get?_push_of_some _ (Heap.get?_push_of_some _ (Heap.get?_push_size _ rfl))
    · show Heap.get? _ _ = _
      rw [← z2]
      refine (Heap.get?_push_of_some _ (Heap.get?_push_size _ rfl)).trans ?_
      have : ((itsL s.heap.objs.size L.length).map fun _ => Value.none) = List.replicate L.length .none := by
        refine List.eq_replicate_iff.mpr ⟨by unfold itsL; simp, fun x hx => ?_⟩
        obtain ⟨y, _, rfl⟩ := List.mem_map.mp hx
        rfl
      rw [this, List.toArray_replicate]
    · obtain ⟨l, xs, g1, g2, g3⟩ := ht k hk
      obtain ⟨l', a1, a2⟩ := I.it k hk
      rw [g1] at a1
      cases a1
      have lt : l < s.heap.objs.size := by
        obtain ⟨o, ho, _⟩ := g3
        exact Heap.lt_size ho
      refine ⟨l, xs, g1, g2, lt, ⟨_, Heap.get?_push_of_some _ (Heap.get?_push_of_some _ (Heap.get?_push_of_some _ a2)), rfl, rfl⟩, ?_⟩
      exact g3.at fun o e => Heap.get?_push_of_some _ (Heap.get?_push_of_some _ (Heap.get?_push_of_some _ (I.keep _ _ e)))
    · rw [Heap.size_push, z3]
theorem tc_zip (L : List Value) (h1 : 1 ≤ L.length) (h : L.length ≤ 8) : checkTypeCall "zip" ⟨L, []⟩ = pure () := by
  match L, h1, h with
  | [a], _, _ => kernel_rfl
  | [a, b], _, _ => kernel_rfl
  | [a, b, c], _, _ => kernel_rfl
  | [a, b, c, d], _, _ => kernel_rfl
  | [a, b, c, d, e], _, _ => kernel_rfl
  | [a, b, c, d, e, f], _, _ => kernel_rfl
  | [a, b, c, d, e, f, g], _, _ => kernel_rfl
  | [a, b, c, d, e, f, g, i], _, _ => kernel_rfl
theorem bc_zip (L : List Value) (h1 : 1 ≤ L.length) (h : L.length ≤ 8) : checkBuiltinCall "zip.__new__" ⟨.type "zip" :: L, []⟩ = pure () := by
  match L, h1, h with
  | [a], _, _ => kernel_rfl
  | [a, b], _, _ => kernel_rfl
  | [a, b, c], _, _ => kernel_rfl
  | [a, b, c, d], _, _ => kernel_rfl
  | [a, b, c, d, e], _, _ => kernel_rfl
  | [a, b, c, d, e, f], _, _ => kernel_rfl
  | [a, b, c, d, e, f, g], _, _ => kernel_rfl
  | [a, b, c, d, e, f, g, i], _, _ => kernel_rfl
theorem ao_init (obj : Value) (L : List Value) (h1 : 1 ≤ L.length) (h : L.length ≤ 8) : argsOk "object.__init__" ⟨obj :: L, []⟩ := by
  unfold argsOk
  match L, h1, h with
  | [a], _, _ => kernel_rfl
  | [a, b], _, _ => kernel_rfl
  | [a, b, c], _, _ => kernel_rfl
  | [a, b, c, d], _, _ => kernel_rfl
  | [a, b, c, d, e], _, _ => kernel_rfl
  | [a, b, c, d, e, f], _, _ => kernel_rfl
  | [a, b, c, d, e, f, g], _, _ => kernel_rfl
  | [a, b, c, d, e, f, g, i], _, _ => kernel_rfl
theorem call_zip_many {L : List Nat} {X : List (Array Value)} {Q : Value → Shared → Prop} (h1 : 1 ≤ L.length) (h8 : L.length ≤ 8) (ht : ∀ k, k < L.length → ∃ l xs, L[k]? = some l ∧ X[k]? = some xs ∧ s.heap.IsTuple l xs)
    (h : ∀ h', ZS s.heap.objs.size L.length L X (fun _ => 0) .none (.bool false) (Array.replicate L.length .none) h' → h'.objs.size = s.heap.objs.size + L.length + 3 → (∀ c o, s.heap.get? c = some o → h'.get? c = some o) → Q (.ref (s.heap.objs.size + L.length + 2)) { s with heap := h' }) :
    wpAny (model prog w) A (call (.type "zip") (L.map Value.ref)) Q E s := by
  refine callType_new F.called_zip (by decide) (tc_zip _ (by simpa using h1) (by simpa using h8)) (bc_zip _ (by simpa using h1) (by simpa using h8)) (fun obj => ao_init obj _ (by simpa using h1) (by simpa using h8)) F.entry_zip_new
    (meets_zip_many (X := X) (by omega)) ⟨ht, fun h' a1 a2 a3 => ?_⟩
  exact ⟨⟨_, a1.zip, rfl⟩, h h' a1 a2 a3⟩
end
end MIR

namespace MIR
open PySem RZ
theorem zip_no_len : typeLookup (.type "zip") "__len__" = pure none := by rw [typeLookup_type, builtinLookup_eq_fast]; kernel_rfl
theorem zip_no_hint : typeLookup (.type "zip") "__length_hint__" = pure none := by rw [typeLookup_type, builtinLookup_eq_fast]; kernel_rfl
abbrev LstAt (h : Heap) (S : Addr) (acc : Array Value) (c : Nat) : Prop := h.get? S = some { cls := .type "list", dict := none, data := .seq acc c, slots := #[] }
structure LP (b n S B i : Nat) (L : List Nat) (X : List (Array Value)) (v : Nat → Nat → Value) (h0 h : Heap) : Prop where
  zs : ∃ e0 e1 ys, (e0 = Value.none ∨ ∃ a : Nat, e0 = rawInt a) ∧ ZS b n L X (fun _ => i) e0 e1 ys h ∧ ys.size = n
  ls : ∃ c, LstAt h S (itsL B i).toArray c
  size : h.objs.size = B + i
  tup : ∀ j, j < i → TupAt h (B + j) (valsL (v j) n).toArray
  keep : ∀ c o, c < b → h0.get? c = some o → h.get? c = some o
section
variable {prog : Program} {w : World} {A : Around} {E : Value → Shared → Prop} {s : Shared} {R : Result → Shared → Prop}
theorem loopZ {b n S B m : Nat} {L : List Nat} {X : List (Array Value)} {v : Nat → Nat → Value} {h0 : Heap} (hh : A.handled = none) (hn : 1 ≤ n) (hn2 : n ≤ 1000) (hm : m ≤ 1000) (hS : b + n + 3 ≤ S) (hB : S < B)
    (hv : ∀ k, k < n → ∀ xs, X[k]? = some xs → ∀ i, i < m → xs[i]? = some (v i k)) (hx : ∀ xs, X[0]? = some xs → xs[m]? = none) (res : Value) :
    ∀ (k i : Nat) (h : Heap), m - i = k → i ≤ m → LP b n S B i L X v h0 h →
    (∀ h' c', LstAt h' S (itsL B m).toArray c' → (∀ j, j < m → TupAt h' (B + j) (valsL (v j) n).toArray) → (∀ c o, c < b → h0.get? c = some o → h'.get? c = some o) → R (.ok (.ret res)) { s with heap := h' }) →
    codeAny (model prog w) A (.builtin "list.extend.loop" ⟨[.ref S, .ref (b + n + 2), res], []⟩) R { s with heap := h } := by
  intro k
  induction k with
  | zero =>
    intro i h hk hi lp hR
    obtain ⟨c, lls⟩ := lp.ls
    have hin : i = m := by omega
    subst hin
    obtain ⟨e0, e1, ys, a1, a2, a3⟩ := lp.zs
    refine codeAny_builtin F.entry_extend_loop ?_
    rw [Around.under_plainId F.plain_extend_loop _]
    show wpAny _ A.in1 (pyNext (.ref (b + n + 2)) >>= _) _ _ _
    refine wpAny_bind (pyNext_end (s := { s with heap := h }) hh hn a1 a2 hx fun h' wi => ?_)
    exact wpAny_pure (hR h' c (wi _ _ (.inr hS) lls) (fun j hj => wi _ _ (.inr (by omega)) (lp.tup j hj)) fun c o hc e => wi _ _ (.inl hc) (lp.keep c o hc e))
  | succ k ih =>
    intro i h hk hi lp hR
    obtain ⟨c, lls⟩ := lp.ls
    have hlt : i < m := by omega
    obtain ⟨e0, e1, ys, a1, a2, a3⟩ := lp.zs
    refine codeAny_builtin F.entry_extend_loop ?_
    rw [Around.under_plainId F.plain_extend_loop _]
    show wpAny _ A.in1 (pyNext (.ref (b + n + 2)) >>= _) _ _ _
    refine wpAny_bind (pyNext_item (s := { s with heap := h }) (v := v i) hn hn2 a1 a2 a3 (fun k hk xs e => hv k hk xs e i hlt) (by show b + n + 3 ≤ h.objs.size; rw [lp.size]; omega) fun h1 f0 f1 ys' b1 b2 b3 b4 b5 wi => ?_)
    have b4 : TupAt h1 h.objs.size (valsL (v i) n).toArray := b4
    have b5 : h1.objs.size = h.objs.size + 1 := b5
    have sz : h.objs.size = B + i := lp.size
    show wpAny _ _ (updateSeq S (·.push (.ref h.objs.size)) >>= _) _ _ { s with heap := h1 }
    rw [sz] at b4 b5 ⊢
    have hS' : LstAt h1 S (itsL B i).toArray c := wi _ _ (.inr hS) lls
    have si : (itsL B i).length = i := by unfold itsL; simp
    refine wpAny_bind ?_
    have nS : ∀ c, c < b + n + 3 → c ≠ S := fun c h e => by subst e; exact Nat.lt_irrefl _ (Nat.lt_of_lt_of_le h hS)
    refine wpAny_updateSeq (s := { s with heap := h1 }) hS' rfl (wpAny_pure ⟨plainId_quiet F.plain_extend_loop _, ih (i + 1) _ (by omega) hlt ⟨?_, ?_, ?_, fun j hj => ?_, fun c o hc e => ?_⟩ hR⟩)
      (by rw [List.size_toArray, si]; unfold sizeLine; omega) (by show ((itsL B i).toArray.push _).size ≤ _; rw [Array.size_push, List.size_toArray, si]; unfold sizeLine; omega)
    · exact ⟨f0, f1, ys', b1, b2.keep fun c o hc e => (Heap.get?_update_other _ _ (nS c hc).symm).trans e, b3⟩
    · obtain ⟨c', e⟩ : ∃ c', Obj.mapSeq (fun x => x.push (Value.ref (B + i))) { cls := Value.type "list", data := Data.seq (itsL B i).toArray c } = { cls := Value.type "list", data := Data.seq ((itsL B i).toArray.push (Value.ref (B + i))) c' } := ⟨_, rfl⟩
      have e2 : (itsL B (i + 1)).toArray = (itsL B i).toArray.push (Value.ref (B + i)) := by
        rw [itsL_succ]
        simp
      rw [e2]
      exact ⟨c', (Heap.get?_update_self (Obj.mapSeq _) hS' rfl).trans (congrArg some e)⟩
    · show (Heap.update _ _ _).objs.size = _
      rw [Heap.size_update]
      omega
    · have nj : B + j ≠ S := Nat.ne_of_gt (by omega)
      refine (Heap.get?_update_other _ _ nj.symm).trans ?_
      rcases Nat.lt_or_ge j i with l | l
      · exact wi _ _ (.inr (by omega)) (lp.tup j l)
      · have : j = i := by omega
        subst this
        exact b4
    · exact (Heap.get?_update_other _ _ (nS c (by omega)).symm).trans (wi _ _ (.inl hc) (lp.keep c o hc e))
theorem collect_zip {b n m : Nat} {L : List Nat} {X : List (Array Value)} {v : Nat → Nat → Value} {ys : Array Value} {Q : List Value → Shared → Prop} (hh : A.handled = none) (hn : 1 ≤ n) (hn2 : n ≤ 1000) (hm : m ≤ 1000)
    (hv : ∀ k, k < n → ∀ xs, X[k]? = some xs → ∀ i, i < m → xs[i]? = some (v i k)) (hx : ∀ xs, X[0]? = some xs → xs[m]? = none)
    (z : ZS b n L X (fun _ => 0) .none (.bool false) ys s.heap) (hy : ys.size = n) (hb : b + n + 3 ≤ s.heap.objs.size)
    (hQ : ∀ h', (∀ j, j < m → TupAt h' (s.heap.objs.size + 1 + j) (valsL (v j) n).toArray) → (∀ c o, c < b → s.heap.get? c = some o → h'.get? c = some o) → Q (itsL (s.heap.objs.size + 1) m) { s with heap := h' }) :
    wpAny (model prog w) A (collect (.ref (b + n + 2))) Q E s := by
  have hSI : s.heap.objs.size ≠ b + n + 2 := Nat.ne_of_gt (by omega)
  unfold collect
  refine wpAny_bind (wpAny_runValue (codeAny_builtin F.entry_proto_collect ?_))
  rw [Around.under_plainId F.plain_proto_collect _]
  show wpAny _ A.in1 (newList [] >>= fun l => again (.builtin "list.__iadd__" ⟨[l, .ref (b + n + 2)], []⟩)) _ _ s
  refine wpAny_bind (wpAny_newObj_type ?_)
  refine wpAny_pure ⟨plainId_quiet F.plain_list_iadd _, codeAny_builtin F.entry_list_iadd ?_⟩
  rw [Around.under_plainId F.plain_list_iadd _]
  have z1 : ZS b n L X (fun _ => 0) .none (.bool false) ys (s.heap.push { cls := .type "list", data := .seq ([] : List Value).toArray }) := z.keep fun c o _ e => Heap.get?_push_of_some _ e
  have hT : ({ s with heap := s.heap.push { cls := .type "list", data := .seq ([] : List Value).toArray } } : Shared).TypeIs (.ref (b + n + 2)) "zip" := ⟨_, z1.zip, rfl⟩
  show wpAny _ A.in1 (Builtin.List.listExtendWith (.ref s.heap.objs.size) (.ref (b + n + 2)) (.ref s.heap.objs.size)) _ _ _
  unfold Builtin.List.listExtendWith
  refine wpAny_bind (wpAny_typeOf hT ?_)
  have h1 : Builtin.List.listSameRef (.ref s.heap.objs.size) (.ref (b + n + 2)) = false := by simp [Builtin.List.listSameRef, hSI]
  have h2 : (Value.type "zip" == Value.type "list") = false := by decide
  have h3 : (Value.type "zip" == Value.type "tuple") = false := by decide
  simp only [h1, h2, h3, Bool.or_false, Bool.false_eq_true, if_false]
  refine wpAny_bind (wpAny_pyIter_zip z1.zip ?_)
  refine wpAny_bind (wpAny_holding ?_)
  unfold Builtin.List.listLengthHint
  refine wpAny_bind (wpAny_specialOf hT zip_no_len ?_)
  show wpAny _ A.in1 (specialOf (Value.ref (b + n + 2)) (Str.ofString "__length_hint__") >>= _) _ _ _
  refine wpAny_bind (wpAny_specialOf hT zip_no_hint ?_)
  refine wpAny_pure ?_
  show wpAny _ A.in1 (rule "list.extend.makes-room" >>= fun _ => Builtin.List.listTouch (.ref s.heap.objs.size) >>= fun _ =>
    again (.builtin "list.extend.loop" ⟨[.ref s.heap.objs.size, .ref (b + n + 2), .ref s.heap.objs.size], []⟩)) _ _ _
  refine wpAny_bind (wpAny_rule ?_)
  have hS₁ : (s.heap.push { cls := .type "list", data := .seq ([] : List Value).toArray }).get? s.heap.objs.size = some { cls := .type "list", data := .seq ([] : List Value).toArray } := Heap.get?_push_size _ rfl
  refine wpAny_bind ?_
  show wpAny _ A.in1 (updateSeq s.heap.objs.size (·.push .none) >>= fun _ => updateSeq s.heap.objs.size (·.pop)) _ _ _
  refine wpAny_bind (wpAny_updateSeq hS₁ rfl ?_)
  have hS₂ := Heap.get?_update_self (Obj.mapSeq (·.push Value.none)) hS₁ rfl
  refine wpAny_updateSeq hS₂ rfl ?_
  have hS₃ := Heap.get?_update_self (Obj.mapSeq (·.pop)) hS₂ rfl
  have oth : ∀ b o, b ≠ s.heap.objs.size → (s.heap.push { cls := .type "list", data := .seq ([] : List Value).toArray }).get? b = some o →
      (((s.heap.push { cls := .type "list", data := .seq ([] : List Value).toArray }).update s.heap.objs.size (Obj.mapSeq (·.push Value.none))).update s.heap.objs.size (Obj.mapSeq (·.pop))).get? b = some o :=
    fun b o hb e => (Heap.get?_update_other _ _ (Ne.symm hb)).trans ((Heap.get?_update_other _ _ (Ne.symm hb)).trans e)
  refine wpAny_pure ⟨plainId_quiet F.plain_extend_loop _, loopZ (s := s) (S := s.heap.objs.size) (B := s.heap.objs.size + 1) (m := m) (L := L) (X := X) (v := v) (h0 := s.heap) hh hn hn2 hm hb (by omega) hv hx _ m 0 _ rfl (Nat.zero_le _)
    ⟨⟨_, _, _, .inl rfl, z1.keep fun c o hc e => oth c o (fun e => by subst e; exact Nat.lt_irrefl _ (Nat.lt_of_lt_of_le hc hb)) e, hy⟩, ⟨_, hS₃⟩, ?_, fun j hj => absurd hj (Nat.not_lt_zero _), fun c o hc e => oth c o (fun e => by subst e; exact absurd hc (by omega)) (Heap.get?_push_of_some _ e)⟩ fun h' c' l1 l2 l3 => ?_⟩
  · show (Heap.update _ _ _).objs.size = _
    rw [Heap.size_update, Heap.size_update, Heap.size_push]
  · show wpAny _ A (load s.heap.objs.size >>= _) _ _ { s with heap := h' }
    refine wpAny_bind (wpAny_load l1 ?_)
    exact wpAny_pure (hQ h' l2 l3)
theorem tuple_zip {b n m : Nat} {L : List Nat} {X : List (Array Value)} {v : Nat → Nat → Value} {ys : Array Value} {Q : Value → Shared → Prop} (hh : A.handled = none) (hn : 1 ≤ n) (hn2 : n ≤ 1000) (hm : m ≤ 1000)
    (hv : ∀ k, k < n → ∀ xs, X[k]? = some xs → ∀ i, i < m → xs[i]? = some (v i k)) (hx : ∀ xs, X[0]? = some xs → xs[m]? = none)
    (z : ZS b n L X (fun _ => 0) .none (.bool false) ys s.heap) (hy : ys.size = n) (hb : b + n + 3 ≤ s.heap.objs.size)
    (hQ : ∀ h', (∀ j, j < m → TupAt h' (s.heap.objs.size + 1 + j) (valsL (v j) n).toArray) → (∀ c o, c < b → s.heap.get? c = some o → h'.get? c = some o) →
      Q (.ref h'.objs.size) { s with heap := h'.push { cls := .type "tuple", data := .seq (itsL (s.heap.objs.size + 1) m).toArray } }) :
    wpAny (model prog w) A (call (.type "tuple") [.ref (b + n + 2)]) Q E s := by
  have hT : s.TypeIs (.ref (b + n + 2)) "zip" := ⟨_, z.zip, rfl⟩
  refine callType_codes (Q₁ := fun obj s₁ => s₁.TypeIs obj "tuple" ∧ Q obj s₁) F.called_tuple (F.typeCall_tuple_1 _) F.entry_object_init ?_ fun obj s₁ h₁ => ⟨h₁.1, F.args_object_init_2 obj _, object_init_meets F.called_tuple.init.lookup F.called_tuple.made (by decide) prog w A.in1 _ s₁ ⟨h₁.1, rfl, h₁.2⟩⟩
  refine codeAny_of_tree ?_
  show wpAny _ A.in1.in1 (do checkBuiltinCall "tuple.__new__" ⟨[.type "tuple", .ref (b + n + 2)], []⟩; again (.builtin "tuple.__new__" ⟨[.type "tuple", .ref (b + n + 2)], []⟩)) _ _ s
  refine wpAny_bind (wpAny_of_eq (F.newCall_tuple_1 _) (wpAny_pure ⟨plainId_quiet F.plain_tuple_new _, codeAny_builtin F.entry_tuple_new ?_⟩))
  rw [Around.under_plainId F.plain_tuple_new _]
  have hsub := sub_tuple_self
  have hinit := init_tuple_lookup
  have hmh := madeHere_tuple
  wp_walk using wpAny_typeOf hT, collect_zip (A := A.in1.in1) hh hn hn2 hm hv hx z hy hb
  intro h' t k
  show wpAny _ _ (Builtin.Tuple.tupleExact (itsL (s.heap.objs.size + 1) m).toArray >>= fun v => ret v) _ _ _
  unfold Builtin.Tuple.tupleExact
  refine wpAny_bind (wpAny_newObj_type ?_ (by show (itsL (s.heap.objs.size + 1) m).toArray.size ≤ sizeLine; unfold itsL sizeLine; simp; omega))
  refine wpAny_pure ?_
  have q := hQ h' t k
  first | exact ⟨⟨_, Heap.get?_push_size _ rfl, rfl⟩, q⟩ | exact wpAny_pure ⟨⟨_, Heap.get?_push_size _ rfl, rfl⟩, q⟩ | exact wpAny_pure ⟨_, rfl, ⟨_, Heap.get?_push_size _ rfl, rfl⟩, q⟩
end
end MIR

namespace MIR
open PySem PySem.Spec PyProof.Rows L2
/-- m new tuples, from B on -/
def updN (H : Hp) (B : Nat) (f : Nat → List V) : Nat → Hp
  | 0 => H
  | m + 1 => upd (updN H B f m) (B + m) (.tup (f m))
theorem updN_ne {H : Hp} {B : Nat} {f : Nat → List V} : ∀ {m : Nat} {c : Nat}, (c < B ∨ B + m ≤ c) → updN H B f m c = H c
  | 0, _, _ => rfl
  | m + 1, c, h => by
    have ne : c ≠ B + m := by
      rcases h with h | h
      · exact Nat.ne_of_lt (by omega)
      · exact Nat.ne_of_gt (by omega)
    unfold updN
    rw [upd_ne ne]
    exact updN_ne (h.imp id fun h => by omega)
section
variable {X : Cx} {pins : List (Addr × Obj)} {σ : L2.St} {H : Hp} {s : Shared}
theorem Inv.laidMany {h' : Heap} {B : Nat} {f : Nat → List V} (m : Nat) (I : Inv X pins σ H s) (k : ∀ b u, s.heap.get? b = some u → h'.get? b = some u) (hB : s.heap.objs.size ≤ B)
    (new : ∀ j, j < m → ∃ its : List Value, (f j).length ≤ sizeLine ∧ Vals (f j) its ∧ TupAt h' (B + j) its.toArray) :
    Inv X pins σ (updN H B f m) { s with heap := h' } := by
  have step : ∀ j, j ≤ m → ∃ G : Heap, (∀ b : Nat, (b < s.heap.objs.size ∨ (B ≤ b ∧ b < B + j)) → G.get? b = h'.get? b) ∧ (∀ b : Nat, ¬(b < s.heap.objs.size ∨ (B ≤ b ∧ b < B + j)) → G.get? b = none) ∧ Inv X pins σ (updN H B f j) { s with heap := G } := by
    intro j
    induction j with
    | zero =>
      intro _
      obtain ⟨G, g1, g2⟩ := restrict h' fun (b : Nat) => decide (b < s.heap.objs.size ∨ (B ≤ b ∧ b < B + 0))
      refine ⟨G, fun b hb => g1 b (decide_eq_true hb), fun b hb => g2 b (decide_eq_false hb), ?_⟩
      exact I.kept (t' := s.toks) fun b u e => by
        rw [g1 b (decide_eq_true (.inl (Heap.lt_size e)))]
        exact k b u e
    | succ j ih =>
      intro hj
      obtain ⟨G, g1, g2, J⟩ := ih (by omega)
      obtain ⟨G', g1', g2'⟩ := restrict h' fun (b : Nat) => decide (b < s.heap.objs.size ∨ (B ≤ b ∧ b < B + (j + 1)))
      obtain ⟨its, hz, hv, ht⟩ := new j (by omega)
      have hg : G'.get? (B + j) = h'.get? (B + j) := g1' _ (decide_eq_true (.inr ⟨Nat.le_add_right _ _, by omega⟩))
      refine ⟨G', fun b hb => g1' b (decide_eq_true hb), fun b hb => g2' b (decide_eq_false hb), ?_⟩
      refine Inv.laidN (t' := s.toks) (s := { s with heap := G }) J (fun (b : Nat) u e => ?_) (g2 _ ?_) ?_ ?_
      · by_cases hb : b < s.heap.objs.size ∨ (B ≤ b ∧ b < B + j)
        · rw [g1' b (decide_eq_true (hb.imp id fun h => ⟨h.1, by omega⟩)), ← g1 b hb]
          exact e
        · have := g2 b hb
          have e : G.get? b = some u := e
          rw [this] at e
          cases e
      · intro h
        omega
      · rw [updN_ne (.inr (Nat.le_refl _))]
        exact I.hok.fresh (by omega)
      · exact ⟨hz, its, hv, ⟨_, hg.trans ht, rfl, _, rfl⟩⟩
  obtain ⟨G, g1, g2, J⟩ := step m (Nat.le_refl _)
  refine Inv.kept (t' := s.toks) (s := { s with heap := G }) J fun (b : Nat) u e => ?_
  have e : G.get? b = some u := e
  by_cases hb : b < s.heap.objs.size ∨ (B ≤ b ∧ b < B + m)
  · rw [← g1 b hb]
    exact e
  · rw [g2 b hb] at e
    cases e
def RowAt (K : PySem.W.Frag) (H : Hp) (x : V) (xs : List V) : Prop := ∃ l, x = V.ref l ∧ SqT K H l xs
theorem rows_of (I : Inv X pins σ H s) : ∀ {vs : List V} {us : List Value} {xss : List (List V)}, Vals vs us → Paired (RowAt X.K H) vs xss →
    ∃ (L : List Nat) (itss : List (List Value)), us = L.map Value.ref ∧ L.length = xss.length ∧ Paired (fun xs its => Vals xs its) xss itss ∧ ∀ k, k < L.length → ∃ l its, L[k]? = some l ∧ itss[k]? = some its ∧ s.heap.IsTuple l its.toArray
  | _, _, _, .nil, .nil => ⟨[], [], rfl, rfl, .nil, fun k h => absurd h (Nat.not_lt_zero _)⟩
  | _, _, _, .cons r t, .cons h q => by
    obtain ⟨L, itss, e1, e2, e3, e4⟩ := rows_of I t q
    obtain ⟨l, rfl, sq⟩ := h
    obtain ⟨its, rv, p, _⟩ := I.tuple sq
    obtain rfl := r
    refine ⟨l :: L, its :: itss, by rw [e1]; rfl, by rw [List.length_cons, List.length_cons, e2], .cons rv e3, fun k hk => ?_⟩
    cases k with
    | zero => exact ⟨l, its, rfl, rfl, p⟩
    | succ k =>
      obtain ⟨l', its', a1, a2, a3⟩ := e4 k (by simpa using hk)
      exact ⟨l', its', by simpa using a1, by simpa using a2, a3⟩
def col (xss : List (List V)) (j : Nat) : List V := xss.map fun xs => xs[j]?.getD .non
theorem vals_col : ∀ {xss : List (List V)} {itss : List (List Value)} {j m : Nat}, Paired (fun xs its => Vals xs its) xss itss → (∀ xs ∈ xss, xs.length = m) → j < m → Vals (col xss j) (itss.map fun its => its[j]?.getD .none)
  | _, _, _, _, .nil, _, _ => .nil
  | xs :: _, its :: _, j, m, .cons h t, hl, hj => by
    have l : xs.length = m := hl xs (List.mem_cons_self ..)
    have e1 : xs[j]? = some xs[j] := List.getElem?_eq_getElem (by omega)
    obtain ⟨u, e2, r⟩ := h.get e1
    refine .cons ?_ (vals_col t (fun x hx => hl x (List.mem_cons_of_mem _ hx)) hj)
    show RelV (xs[j]?.getD .non) (its[j]?.getD .none)
    rw [e1, e2]
    exact r
theorem valsL_map (itss : List (List Value)) (j : Nat) : valsL (fun k => ((itss[k]?).getD [])[j]?.getD .none) itss.length = itss.map fun its => its[j]?.getD .none := by
  unfold valsL
  refine List.ext_getElem? fun k => ?_
  rcases Nat.lt_or_ge k itss.length with h | h
  · rw [List.getElem?_map, List.getElem?_map, List.getElem?_range h]
    show some ((itss[k]?.getD [])[j]?.getD .none) = Option.map (fun its : List Value => its[j]?.getD .none) itss[k]?
    rw [List.getElem?_eq_getElem h]
    rfl
  · rw [List.getElem?_eq_none (by simpa using h), List.getElem?_eq_none (by simpa using h)]
theorem paired_get {α β : Type} {F : α → β → Prop} : ∀ {xs : List α} {ys : List β} {k : Nat} {y : β}, Paired F xs ys → ys[k]? = some y → ∃ x, xs[k]? = some x ∧ F x y
  | _, _, _, _, .nil, e => by simp at e
  | _, _, 0, _, .cons h _, e => by simp at e; subst e; exact ⟨_, rfl, h⟩
  | _, _, k + 1, _, .cons _ t, e => by
    obtain ⟨x, e1, e2⟩ := paired_get t (by simpa using e)
    exact ⟨x, by simpa using e1, e2⟩
theorem vals_refs (B m : Nat) : Vals ((List.range' B m).map V.ref) (itsL B m) := by
  unfold itsL
  generalize List.range' B m = l
  induction l with
  | nil => exact .nil
  | cons a l ih => exact .cons rfl ih
def tZip (K : PySem.W.Frag) (te : TE) : TE := fun σ H Q => te σ H fun x H1 => ∃ a vs xss m, x = V.ref a ∧ (SqT K H1 a vs ∨ SqL K H1 a vs) ∧ Paired (RowAt K H1) vs xss ∧ 1 ≤ xss.length ∧ xss.length ≤ 8 ∧ (∀ xs ∈ xss, xs.length = m) ∧ 1 ≤ m ∧ m ≤ 1000 ∧
  ∀ B p, (∀ c, B ≤ c → H1 c = none) → B + m ≤ p → Q (.ref p) (upd (updN H1 B (col xss) m) p (.tup ((List.range' B m).map V.ref)))
theorem keeps_type (T : String) {M : Model} (h : Heap) (_ : True) : ∃ k, (k = Keeper.frame ∨ k = Keeper.machine ∨ k = Keeper.boundFrame) ∧ PySem.W.Looks M h (keeperOf (.type T)) k :=
  ⟨.machine, .inr (.inl rfl), PySem.W.Looks.of_pure rfl⟩
theorem pe_zipStar {e : Expr} {te : TE} {p p2 sp pos pos2 : Pos} (hc : X.calm = true) (hg : Gl X "tuple") (hm : X.mg "tuple" = none) (hg2 : Gl X "zip") (hm2 : X.mg "zip" = none) (he : PE X e te)
    (hs : starEach [.Starred e sp] X.env = [(true, eval e X.env)] := by rfl)
    (hs2 : starEach [.Call (.Name "zip" p2) [.Starred e sp] [] pos2] X.env = [(false, eval (.Call (.Name "zip" p2) [.Starred e sp] [] pos2) X.env)] := by rfl) :
    PE X (.Call (.Name "tuple" p) [.Call (.Name "zip" p2) [.Starred e sp] [] pos2] [] pos) (tZip X.K te) := by
  refine ⟨fun pins s σ H Q I h => ?_⟩
  refine Call_ (ld_blt I hg hm PyProof.Rows.boot_tuple ?_)
  refine PyProof.Rows.callWith_type1 ?_ hs2 rfl
  rw [hs2]
  refine Calls.spliced_cons ?_
  refine Call_ (ld_blt I hg2 hm2 PyProof.Rows.boot_zip ?_)
  rw [hs]
  refine PySem.W.ks_call (P := fun _ => True) rfl (keeps_type "zip") (PySem.W.ks_lone (thn (he.run pins s σ H _ I h) fun v s1 ⟨x, H1, I1, rx, a, vs, xss, m, ex, hq, hp, n1, n8, hl, hm1, hm, q⟩ => ?_))
  subst ex
  obtain rfl : v = Value.ref a := rx
  refine StX.star_any I1 hq fun us s2 I2 rv => ⟨trivial, ?_⟩
  obtain ⟨L, itss, rfl, e2, e3, e4⟩ := rows_of I2 rv hp
  have li : itss.length = xss.length := (e3.length).symm
  show wpAny _ _ (call (.type "zip") ([] ++ L.map Value.ref) []) _ _ _
  rw [List.nil_append]
  refine call_zip_many (L := L) (X := itss.map List.toArray) (by omega) (by omega) (fun k hk => ?_) fun h1 z sz kp => ?_
  · obtain ⟨l, its, a1, a2, a3⟩ := e4 k hk
    exact ⟨l, its.toArray, a1, by rw [List.getElem?_map, a2]; rfl, a3⟩
  refine Calls.spliced_nil ?_
  have I3 : Inv X pins σ H1 { s2 with heap := h1 } := I2.kept (t' := s2.toks) kp
  refine tuple_zip (s := { s2 with heap := h1 }) (m := m) (v := fun j k => ((itss[k]?).getD [])[j]?.getD .none) (I3.ok.hd hc) (by omega) (by omega) hm (fun k hk xs e i hi => ?_) (fun xs e => ?_) z (by rw [Array.size_replicate]) (by show _ ≤ h1.objs.size; omega) fun h2 t2 k2 => ?_
  · rw [List.getElem?_map] at e
    obtain ⟨its, e5, rfl⟩ := Option.map_eq_some_iff.mp e
    obtain ⟨ys, e6, e7⟩ := paired_get e3 e5
    have l1 : its.length = m := by rw [← e7.length]; exact hl ys (List.mem_of_getElem? e6)
    show its.toArray[i]? = some (((itss[k]?).getD [])[i]?.getD .none)
    rw [e5]
    show its.toArray[i]? = some (its[i]?.getD .none)
    rw [List.getElem?_toArray, List.getElem?_eq_getElem (by omega)]
    rfl
  · rw [List.getElem?_map] at e
    obtain ⟨its, e5, rfl⟩ := Option.map_eq_some_iff.mp e
    obtain ⟨ys, e6, e7⟩ := paired_get e3 e5
    have l1 : its.length = m := by rw [← e7.length]; exact hl ys (List.mem_of_getElem? e6)
    rw [List.getElem?_toArray]
    exact List.getElem?_eq_none (by omega)
  · have kk : ∀ c u, s2.heap.get? c = some u → h2.get? c = some u := fun c u e => k2 c u (Heap.lt_size e) (kp c u e)
    have sz' : s2.heap.objs.size ≤ h1.objs.size + 1 := by omega
    have J : Inv X pins σ (updN H1 (h1.objs.size + 1) (col xss) m) { s2 with heap := h2 } := Inv.laidMany m I2 kk sz' fun j hj => ⟨_, ?_, vals_col e3 hl hj, ?_⟩
    · have hp : h1.objs.size + 1 + m ≤ h2.objs.size := by
        have := Heap.lt_size (t2 (m - 1) (by omega))
        have : h1.objs.size + 1 + (m - 1) < h2.objs.size := this
        omega
      have J2 : Inv X pins σ (upd (updN H1 (h1.objs.size + 1) (col xss) m) h2.objs.size (.tup ((List.range' (h1.objs.size + 1) m).map V.ref))) { s2 with heap := h2.push { cls := .type "tuple", data := .seq (itsL (h1.objs.size + 1) m).toArray } } :=
        Inv.laid (s := { s2 with heap := h2 }) (t' := s2.toks) J (fun b u e => Heap.get?_push_of_some _ e) (Nat.le_refl _) ⟨by rw [List.length_map, List.length_range']; unfold sizeLine; omega, _, vals_refs _ _, ⟨_, Heap.get?_push_size _ rfl, rfl, _, rfl⟩⟩
      exact ⟨.ref h2.objs.size, _, J2, rfl, q (h1.objs.size + 1) h2.objs.size (fun c hc => I2.hok.fresh (Nat.le_trans sz' hc)) hp⟩
    · unfold col
      rw [List.length_map]
      unfold sizeLine
      omega
    · rw [← valsL_map]
      have := t2 j hj
      rw [li, ← e2]
      exact this
end
end MIR

namespace MI
open PySem PySem.Spec PyProof.Rows L2 RZ
variable {K : PySem.W.Frag} {F F' : Fz} {μ : List Addr} {H : Hp} {S : Sto}
theorem reps_getD {j : Nat} {ds : List D} {vs : List V} (h : Reps K F μ H ds vs) (hj : j < ds.length) : Rep K F μ H (ds[j]?.getD .non) (vs[j]?.getD .non) := by
  obtain ⟨v, e, r⟩ := h.get (List.getElem?_eq_getElem hj)
  rw [e, List.getElem?_eq_getElem hj]
  exact r
theorem rowsO_rep : ∀ {rows : List D} {vs : List V} {rs : List (List D)}, Reps K F μ H rows vs → rowsO rows = some rs → ∃ xss, Paired (MIR.RowAt K H) vs xss ∧ Paired (fun ds xs => Reps K F μ H ds xs) rs xss
  | [], _, _, h, e => by
    cases e
    obtain rfl := h.nilI
    exact ⟨[], .nil, .nil⟩
  | d :: rows, vs, rs, h, e => by
    obtain ⟨v, r, rfl, h1, h2⟩ := h.consI
    cases d with
    | tup ds =>
      obtain ⟨rs', e1, rfl⟩ := omap e
      obtain ⟨xss, p1, p2⟩ := rowsO_rep h2 e1
      obtain ⟨a, us, rfl, t, r2⟩ := h1.tupI
      exact ⟨us :: xss, .cons ⟨a, rfl, t.sq⟩ p1, .cons r2 p2⟩
    | _ => cases e
theorem col_rep {j m : Nat} : ∀ {rs : List (List D)} {xss : List (List V)}, Paired (fun ds xs => Reps K F μ H ds xs) rs xss → (∀ r ∈ rs, r.length = m) → j < m → Reps K F μ H (rs.map fun r => r[j]?.getD .non) (MIR.col xss j)
  | _, _, .nil, _, _ => Reps.nil
  | ds :: _, xs :: _, .cons h t, hl, hj => by
    have l : ds.length = m := hl ds (List.mem_cons_self ..)
    exact Reps.cons (reps_getD h (by omega)) (col_rep t (fun x hx => hl x (List.mem_cons_of_mem _ hx)) hj)
theorem Rl.laidN (r : Rl K F μ H S) {B : Nat} {f : Nat → List V} (hB : ∀ c : Nat, B ≤ c → H c = none) : ∀ m, ∃ F', Ext F μ H F' μ (MIR.updN H B f m) ∧ Rl K F' μ (MIR.updN H B f m) S ∧ ∀ j, j < m → F' (B + j) ∧ MIR.updN H B f m (B + j) = some (.tup (f j))
  | 0 => ⟨F, r.ref, r, fun j h => absurd h (Nat.not_lt_zero _)⟩
  | m + 1 => by
    obtain ⟨F', e, r', h⟩ := Rl.laidN r hB m
    have hn : MIR.updN H B f m (B + m) = none := by
      rw [MIR.updN_ne (.inr (Nat.le_refl _))]
      exact hB _ (Nat.le_add_right _ _)
    obtain ⟨e2, r2⟩ := r'.laid hn (.tup (f m))
    refine ⟨_, e.trans e2, r2, fun j hj => ?_⟩
    rcases Nat.lt_or_ge j m with l | l
    · obtain ⟨a, b⟩ := h j l
      refine ⟨.inl a, ?_⟩
      show upd _ _ _ _ = _
      rw [upd_ne (Nat.ne_of_lt (by omega) : B + j ≠ B + m)]
      exact b
    · have : j = m := by omega
      subst this
      exact ⟨.inr rfl, upd_same⟩
theorem reps_refs {f : Nat → List V} {g : Nat → List D} : ∀ (B m : Nat) (o : Nat), (∀ j, j < m → F (B + j) ∧ H (B + j) = some (.tup (f (o + j))) ∧ Reps K F μ H (g (o + j)) (f (o + j))) → Reps K F μ H ((List.range' o m).map fun j => .tup (g j)) ((List.range' B m).map V.ref)
  | _, 0, _, _ => Reps.nil
  | B, m + 1, o, h => by
    rw [List.range'_succ, List.range'_succ, List.map_cons, List.map_cons]
    obtain ⟨a, b, c⟩ := h 0 (Nat.succ_pos _)
    refine Reps.cons ⟨B, f o, rfl, .inl ⟨a, b⟩, c⟩ (reps_refs (f := f) (g := g) (B + 1) m (o + 1) fun j hj => ?_)
    have := h (j + 1) (by omega)
    rw [show B + (j + 1) = B + 1 + j by omega, show o + (j + 1) = o + 1 + j by omega] at this
    exact this
theorem rdE_zipS {W : XK} {c : Call} {f : ME} {σ : L2.St} {Q : VK} (h : rdE K W c (eZipS f) σ H Q) : MIR.tZip K (rdE K W c f) σ H Q := by
  obtain ⟨F, μ, S, ρ, r0, s0, p⟩ := h
  refine ⟨F, μ, S, ρ, r0, s0, p.bind.imp fun a F1 μ1 S1 H1 e1 r1 p1 x hx => ?_⟩
  obtain ⟨xs, ex, p1⟩ := p1.itemsU
  obtain ⟨rs, en, p1⟩ := p1.ofOB
  obtain ⟨z, p1⟩ := p1.chkB
  obtain ⟨q1, vs, rfl, h1, rs1⟩ := r1.seq hx ex
  have z := of_decide_eq_true z
  obtain ⟨z1, z2, z3, z4, z5⟩ := z
  obtain ⟨xss, p2, p3⟩ := rowsO_rep rs1 en
  have hl := p3.length
  have hlen : ∀ xs ∈ xss, xs.length = (rs.headD []).length := fun xs hx => by
    obtain ⟨k, e⟩ := List.mem_iff_getElem?.mp hx
    obtain ⟨ds, e2, e3⟩ := MIR.paired_get p3 e
    rw [e3.length]
    exact z5 ds (List.mem_of_getElem? e2)
  refine ⟨q1, vs, xss, (rs.headD []).length, rfl, h1.symm.imp id fun h => h.2, p2, by omega, by omega, hlen, z3, z4, fun B p hB hp => ?_⟩
  obtain ⟨F2, e2, r2, k2⟩ := r1.laidN (f := MIR.col xss) (m := (rs.headD []).length) hB
  have hn : MIR.updN H1 B (MIR.col xss) (rs.headD []).length p = none := by
    rw [MIR.updN_ne (.inr hp)]
    exact hB _ (Nat.le_trans (Nat.le_add_right _ _) hp)
  have rr : Reps K F2 μ1 (MIR.updN H1 B (MIR.col xss) (rs.headD []).length) ((List.range' 0 (rs.headD []).length).map fun j => .tup (rs.map fun r => r[j]?.getD .non)) ((List.range' B (rs.headD []).length).map V.ref) :=
    reps_refs B _ 0 fun j hj => by
      obtain ⟨a, b⟩ := k2 j hj
      refine ⟨a, by rw [Nat.zero_add]; exact b, ?_⟩
      rw [Nat.zero_add]
      exact (col_rep p3 z5 hj).ext e2
  rw [← List.range_eq_range'] at rr
  exact post.tup (p1.ext e2) r2 hn rr
end MI

/-! MI17: what the text computes: expressions, one step of the induction. -/
namespace MI
open PySem PySem.Spec PyProof.Rows L2
section
variable {G : GE} {c : Call} {k n : Nat} {sc : Scope} {N : List Str} {W : XK} {X : Cx}
theorem bool_any {G : GE} {x : Str} (h : (G.blt.any fun z => decide (z = x)) = true) : x ∈ G.blt := by
  obtain ⟨z, hz, e⟩ := List.any_eq_true.mp h
  have e : z = x := of_decide_eq_true e
  rw [← e]; exact hz
theorem isB_1 (C : Ctx G c W k sc N X) {x y : Str} (h : isB G sc x y = true) : x = y ∧ Gl X y ∧ y ∈ G.blt := by
  unfold isB at h
  rw [Bool.and_eq_true, Bool.and_eq_true] at h
  obtain ⟨h1, h2, h3⟩ := h
  have h1 : x = y := of_decide_eq_true h1
  subst h1
  exact ⟨rfl, isGl_gl C h2, bool_any h3⟩
theorem fn_get {x : Str} {i : Nat} (h : G.fn x = some i) : ∃ ps, G.fns[i]? = some (x, ps) := by
  unfold GE.fn at h
  obtain ⟨hl, h1⟩ := List.findIdx?_eq_some_iff_getElem.mp h
  have e : G.fns[i].1 = x := by simpa using h1.1
  refine ⟨G.fns[i].2, ?_⟩
  rw [List.getElem?_eq_getElem hl, ← e]
theorem paC {e : Expr} {es : List Expr} {f : ME} {g : MA} (he : PE X e (rdE X.K W c f)) (ha : PA X es (rdA X.K W c g)) (h : starFree (e :: es) = true) : PA X (e :: es) (rdA X.K W c (aCons f g)) :=
  (pa_cons he ha (star_cons X.env h).1).imp fun _ _ _ w => rd_cons w
theorem pa1 {e : Expr} {f : ME} (he : PE X e (rdE X.K W c f)) (h : starFree [e] = true) : PA X [e] (tCons (rdE X.K W c f) tNil) := pa_cons he pa_nil (star_cons X.env h).1
/-! #### the cases -/
theorem sA (ih : Snd G c k n) (es : List Expr) (f : MA) (C : Ctx G c W k sc N X) (h : cA G (n + 1) sc N es = some f) : PA X es (rdA X.K W c f) ∧ starFree es = true := by
  unfold cA at h
  split at h
  · cases h
    exact ⟨pa_nil.imp fun _ _ _ w => rd_nil w, rfl⟩
  · cases h
  · rename_i e es hns
    obtain ⟨g, e1, h⟩ := obind h
    obtain ⟨g2, e2, rfl⟩ := omap h
    obtain ⟨a1, a2⟩ := ih.A sc N W X es g2 C e2
    have hs : starFree (e :: es) = true := by
      have := cE_nostar e1
      cases e <;> first | exact a2 | (unfold starFree at this; cases this)
    exact ⟨paC (ih.E sc N W X e g C e1) a1 hs, hs⟩
theorem sKW (ih : Snd G c k n) (kws : List Keyword) (f : MA) (C : Ctx G c W k sc N X) (h : cA G (n + 1) sc N (kws.map Keyword.value) = some f) : PK X kws (rdA X.K W c f) := by
  cases kws with
  | nil =>
    unfold cA at h
    cases h
    exact ⟨fun pos pins s σ H Q I w => pk_nil.run pos pins s σ H Q I (rd_nil w)⟩
  | cons kw kws =>
    obtain ⟨nm, e, p⟩ := kw
    rw [List.map_cons] at h
    unfold cA at h
    split at h
    · rename_i z; cases z
    · cases h
    · rename_i e' es' hns z
      obtain ⟨z1, z2⟩ := List.cons.inj z
      subst z1 z2
      obtain ⟨g, e1, h⟩ := obind h
      obtain ⟨g2, e2, rfl⟩ := omap h
      have q := pk_cons (nm := nm) (kpos := p) (ih.E sc N W X _ g C e1) (ih.KW sc N W X kws g2 C e2)
      exact ⟨fun pos pins s σ H Q I w => q.run pos pins s σ H Q I (rd_cons w)⟩
theorem sO (ih : Snd G c k n) (o : Option Expr) (f : Call → MI.Env → M (Option Int)) (C : Ctx G c W k sc N X) (h : cO G (n + 1) sc N o = some f) : PO X o (rdO X.K W c f) := by
  unfold cO at h
  split at h
  · cases h
    exact po_none.imp fun σ H Q ⟨F, μ, S, ρ, r0, s0, p⟩ => p.at r0
  · rename_i e
    obtain ⟨g, e1, rfl⟩ := omap h
    exact (po_some (ih.E sc N W X e g C e1)).imp fun _ _ _ w => rd_oSome w
theorem sIfs (ih : Snd G c k n) (es : List Expr) (f : MT) (C : Ctx G c W k sc N X) (h : cIfs G (n + 1) sc N es = some f) : PTs X es (rdT X.K W c f) := by
  unfold cIfs at h
  split at h
  · cases h
    exact ⟨fun pins s σ H Q I ⟨F, μ, S, ρ, r0, s0, p⟩ => pts_nil.run pins s σ H Q I (p.at r0)⟩
  · rename_i e
    exact pts_one (ih.T sc N W X e f C h)
  · cases h
theorem sBo (ih : Snd G c k n) (op : BoolOp) (es : List Expr) (p : Pos) (f : ME) (C : Ctx G c W k sc N X) (h : cBo G (n + 1) sc N op es = some f) : PE X (.BoolOp op es p) (rdE X.K W c f) := by
  unfold cBo at h
  split at h
  · rename_i a
    exact pe_one (ih.E sc N W X a f C h)
  · rename_i a b es
    obtain ⟨g, e1, h⟩ := obind h
    obtain ⟨g2, e2, rfl⟩ := omap h
    have h1 := ih.E sc N W X a g C e1
    have h2 := ih.Bo sc N W X op (b :: es) p g2 C e2
    cases op with
    | And => exact (pe_and h1 h2).imp fun _ _ _ w => rd_and w
    | Or => exact (pe_or h1 h2).imp fun _ _ _ w => rd_or w
  · cases h
theorem sTo (ih : Snd G c k n) (op : BoolOp) (es : List Expr) (p : Pos) (f : MT) (C : Ctx G c W k sc N X) (h : cTo G (n + 1) sc N op es = some f) : PW X (.BoolOp op es p) (rdT X.K W c f) := by
  unfold cTo at h
  split at h
  · rename_i a
    cases op with
    | And => exact pw_and1 (ih.T sc N W X a f C h)
    | Or => exact pw_or1 (ih.T sc N W X a f C h)
  · rename_i a b es
    obtain ⟨g, e1, h⟩ := obind h
    obtain ⟨g2, e2, rfl⟩ := omap h
    have h1 := ih.T sc N W X a g C e1
    have h2 := ih.To sc N W X op (b :: es) p g2 C e2
    cases op with
    | And => exact (pw_and h1 h2).imp fun _ _ _ w => rd_tAnd w
    | Or => exact (pw_or h1 h2).imp fun _ _ _ w => rd_tOr w
  · cases h
theorem lastM {op op' : CmpOp} {b d : Expr} (h : notSet d = true) : lastMarks [op, op'] [b, d] = false := behind_no h
theorem pt_of_pw {op : BoolOp} {es : List Expr} {p : Pos} {t : TT} (h : PW X (.BoolOp op es p) t) : PT X (.BoolOp op es p) t := ⟨fun pins s σ H Q I w => h.run _ pins s σ H Q I w⟩
theorem sT (ih : Snd G c k n) (e : Expr) (f : MT) (C : Ctx G c W k sc N X) (h : cT G (n + 1) sc N e = some f) : PT X e (rdT X.K W c f) := by
  unfold cT at h
  have tru : ∀ (e : Expr) (f : MT), (∀ whole, isTrue e X.env whole = (do let v ← whole; standAt e.pos; holding [v] (truthy v))) → (cE G n sc N e).map tTru = some f → PT X e (rdT X.K W c f) := fun e f he h => by
    obtain ⟨g, e1, rfl⟩ := omap h
    exact (pt_truth (ih.E sc N W X e g C e1) he).imp fun _ _ _ w => rd_tru w
  split at h
  · obtain ⟨g, e1, rfl⟩ := omap h
    exact (pt_not (ih.T sc N W X _ g C e1)).imp fun _ _ _ w => rd_tNot w
  · exact pt_of_pw (ih.To sc N W X _ _ _ f C h)
  · obtain ⟨g, e1, h⟩ := obind h
    obtain ⟨g2, e2, rfl⟩ := omap h
    obtain ⟨r, o, kk⟩ := cmp_ok (X := X) (by have := C.hu; omega) _
    refine (pt_cmpR o (ih.E sc N W X _ g C e1) (ih.E sc N W X _ g2 C e2) (behind_no (cE_notSet e2))).imp fun σ H Q w => ?_
    exact rd_cmp w (fun b H q => ⟨b, rfl, q⟩) kk
  · obtain ⟨g, e1, h⟩ := obind h
    obtain ⟨g2, e2, h⟩ := obind h
    obtain ⟨g3, e3, rfl⟩ := omap h
    obtain ⟨r, o, kk⟩ := cmp_ok (X := X) (by have := C.hu; omega) _
    obtain ⟨r', o', kk'⟩ := cmp_ok (X := X) (by have := C.hu; omega) _
    refine (pt_chain o o' (ih.E sc N W X _ g C e1) (ih.E sc N W X _ g2 C e2) (ih.E sc N W X _ g3 C e3) (lastM (cE_notSet e3))).imp fun σ H Q w => ?_
    exact rd_chain w (fun b H q => ⟨b, rfl, q⟩) kk kk'
  · exact tru _ f (fun _ => rfl) h
  · exact tru _ f (fun _ => rfl) h
  · exact tru _ f (fun _ => rfl) h
  · exact tru _ f (fun _ => rfl) h
  · cases h
end
end MI

/-! MI18: what the text computes: calls, walks, targets. -/
namespace MI
open PySem PySem.Spec PyProof.Rows L2
section
variable {G : GE} {c : Call} {k n : Nat} {sc : Scope} {N : List Str} {W : XK} {X : Cx}
/-! #### calls of defs -/
theorem rd_call (C : Ctx G c W k sc N X) {i : Nat} {x : Str} {ps : List Str} (hi : G.fns[i]? = some (x, ps)) {f : MA} {σ : L2.St} {H : Hp} {Q : VK} (w : rdE X.K W c (eCall i f) σ H Q) : rdA X.K W c f σ H fun vs H1 => spF X.K c i ps.length vs H1 Q W := by
  obtain ⟨F, μ, S, ρ, r0, s0, p⟩ := w
  refine ⟨F, μ, S, ρ, r0, s0, p.bind.imp fun ds F1 μ1 S1 H1 e1 r1 p1 vs hv => ⟨F1, μ1, S1, ds, r1, hv, ?_, p1⟩⟩
  exact Classical.byContradiction fun q => by
    rw [C.ar i x ps hi ds S1 q] at p1
    exact p1.elim
theorem permA_ok {K : PySem.W.Frag} {F : Fz} {μ : List Addr} {H : Hp} {ds : List D} {vs : List V} (r : Reps K F μ H ds vs) : ∀ {pm : List Nat} {zs : List D}, permA pm ds = some zs → (∀ j ∈ pm, j < vs.length) ∧ Reps K F μ H zs (permL pm vs)
  | [], zs, h => by
    unfold permA at h
    have h : some ([] : List D) = some zs := h
    cases h
    exact ⟨fun j hj => (by cases hj), Reps.nil⟩
  | j :: pm, zs, h => by
    unfold permA at h
    rw [List.mapM_cons] at h
    cases q : ds[j]? with
    | none => rw [q] at h; cases h
    | some d =>
      rw [q] at h
      have h : ((pm.mapM fun j => ds[j]?) >>= fun r => pure (d :: r) : Option (List D)) = some zs := h
      cases q2 : pm.mapM fun j => ds[j]? with
      | none => rw [q2] at h; cases h
      | some zs' =>
        rw [q2] at h
        have h : some (d :: zs') = some zs := h
        cases h
        obtain ⟨h1, h2⟩ := permA_ok r (pm := pm) q2
        obtain ⟨v, e, rv⟩ := r.get q
        refine ⟨fun i hi => ?_, ?_⟩
        · rcases List.mem_cons.mp hi with e2 | hi
          · rw [e2]; exact (List.getElem?_eq_some_iff.mp e).1
          · exact h1 i hi
        · unfold permL
          rw [List.filterMap_cons, e]
          exact Reps.cons rv h2
theorem rd_callP (C : Ctx G c W k sc N X) {i m kn : Nat} {x : Str} {ps : List Str} {pm : List Nat} (hi : G.fns[i]? = some (x, ps)) {f g : MA} {σ : L2.St} {H : Hp} {Q : VK} (w : rdE X.K W c (eCallP i pm m kn f g) σ H Q) :
    rdA X.K W c f σ H fun vs H1 => rdA X.K W c g σ H1 fun zs H2 => vs.length = m ∧ zs.length = kn ∧ (∀ j ∈ pm, j < (vs ++ zs).length) ∧ spF X.K c i ps.length (permL pm (vs ++ zs)) H2 Q W := by
  obtain ⟨F, μ, S, ρ, r0, s0, p⟩ := w
  refine ⟨F, μ, S, ρ, r0, s0, p.bind.imp fun ds F1 μ1 S1 H1 e1 r1 p1 vs hv => ?_⟩
  refine ⟨F1, μ1, S1, ρ, r1, s0.ext e1, p1.bind.imp fun es F2 μ2 S2 H2 e2 r2 p2 zs hz => ?_⟩
  obtain ⟨z, p2⟩ := p2.chkB
  have z : ds.length = m ∧ es.length = kn := of_decide_eq_true z
  obtain ⟨as, ea, p2⟩ := p2.ofOB
  obtain ⟨h1, h2⟩ := permA_ok ((hv.ext e2).append hz) ea
  refine ⟨by rw [hv.length]; exact z.1, by rw [hz.length]; exact z.2, h1, F2, μ2, S2, as, r2, h2, ?_, p2⟩
  exact Classical.byContradiction fun q => by
    rw [C.ar i x ps hi as S2 q] at p2
    exact p2.elim
theorem mapM_len {α β : Type} {f : α → Option β} : ∀ {xs : List α} {ys : List β}, xs.mapM f = some ys → ys.length = xs.length
  | [], ys, h => by
    have h : some ([] : List β) = some ys := h
    cases h; rfl
  | x :: xs, ys, h => by
    rw [List.mapM_cons] at h
    cases q : f x with
    | none => rw [q] at h; cases h
    | some y =>
      rw [q] at h
      have h : (xs.mapM f >>= fun r => pure (y :: r) : Option (List β)) = some ys := h
      cases q2 : xs.mapM f with
      | none => rw [q2] at h; cases h
      | some zs =>
        rw [q2] at h
        have h : some (y :: zs) = some ys := h
        cases h
        rw [List.length_cons, List.length_cons, mapM_len q2]
theorem cA_nil {n : Nat} {f : MA} (h : cA G n sc N [] = some f) : f = aNil := by
  cases n with
  | zero => unfold cA at h; cases h
  | succ n => unfold cA at h; exact (Option.some.inj h).symm
theorem sCall (ih : Snd G c k n) {x : Str} {i : Nat} {args : List Expr} {kws : List Keyword} {p q : Pos} {f : ME} (C : Ctx G c W k sc N X) (hg : isGl sc x = true) (hk : okN x = true) (hx : G.fn x = some i)
    (h : (match kws with
          | [] => (cA G n sc N args).map (eCall i)
          | kws => ((G.fns[i]?).bind fun q => (kws.mapM Keyword.arg).bind fun ks => match G.kws.any fun z => decide (z = (i, args.length, ks)) with
              | true => kwPerm q.2 args.length ks
              | false => none).bind fun pm => (cA G n sc N args).bind fun f => (cA G n sc N (kws.map Keyword.value)).map fun g => eCallP i pm args.length kws.length f g) = some f) :
    PE X (.Call (.Name x q) args kws p) (rdE X.K W c f) := by
  obtain ⟨ps, hi⟩ := fn_get hx
  obtain ⟨fa, fd, hm, hkp, hF, hb, hkb⟩ := C.fns i x ps hi
  have gl := isGl_gl C hg
  have hd := (okN_1 hk).1
  split at h
  · obtain ⟨g, e1, rfl⟩ := omap h
    obtain ⟨a1, a2⟩ := ih.A sc N W X args g C e1
    cases args with
    | nil =>
      refine (pe_callG0 hF C.gd C.room gl hm hkp hb C.pass hd).imp fun σ H Q w => ?_
      have w := rd_call C hi w
      rw [cA_nil e1] at w
      exact rd_nil w
    | cons e es =>
      obtain ⟨st, sf⟩ := star_cons X.env a2
      exact (pe_callG hF C.gd C.room gl hm hkp hb C.pass a1 hd st (star_any X.env p sf)).imp fun σ H Q w => rd_call C hi w
  · obtain ⟨pm, e1, h⟩ := obind h
    obtain ⟨g, e2, h⟩ := obind h
    obtain ⟨g2, e3, rfl⟩ := omap h
    obtain ⟨q', e4, e1⟩ := obind e1
    rw [hi] at e4
    cases e4
    obtain ⟨ks, e5, e1⟩ := obind e1
    split at e1
    · rename_i hz
      obtain ⟨z, hz, ez⟩ := List.any_eq_true.mp hz
      have ez : z = (i, args.length, ks) := of_decide_eq_true ez
      subst ez
      have hkb := hkb args.length ks pm hz e1
      obtain ⟨a1, a2⟩ := ih.A sc N W X args g C e2
      have kw := ih.KW sc N W X _ g2 C e3
      have hl := mapM_len e5
      cases args with
      | nil =>
        refine (pe_callGK0 hF C.gd C.room gl hm hkp hkb C.pass e5 kw hd).imp fun σ H Q w => ?_
        rw [← hl] at w
        have w := rd_callP C hi w
        rw [cA_nil e2] at w
        obtain ⟨F, μ, S, ρ, r0, s0, p⟩ := rd_nil w
        exact ⟨F, μ, S, ρ, r0, s0, p.imp fun ds F1 μ1 S1 H1 e1 r1 p1 vs hv => (p1 vs hv).2⟩
      | cons e es =>
        refine (pe_callGK hF C.gd C.room gl hm hkp hkb C.pass e5 kw hd a2 a1).imp fun σ H Q w => ?_
        rw [← hl] at w
        exact rd_callP C hi w
    · cases e1
/-! #### targets -/
theorem rdG_name {K : PySem.W.Frag} {i : Nat} {vs : List Nat} {v : V} {σ : L2.St} {H : Hp} {Q : L2.St → Hp → Prop} (hi : i ∈ vs) (w : rdG K W c vs (gName i) v σ H Q) : L2.gName i v σ H Q := by
  obtain ⟨F, μ, S, ρ, d, r0, s0, x0, p⟩ := w
  exact p.at r0 _ (s0.set x0 i) fun us hu => wipe_set us σ i _ (hu i hi)
theorem rdG_sub {K : PySem.W.Frag} {f g : ME} {vs : List Nat} {v : V} {σ : L2.St} {H : Hp} {Q : L2.St → Hp → Prop} (w : rdG K W c vs (gSub f g) v σ H Q) : L2.gSub (rdE K W c f) (rdE K W c g) rSetL v σ H Q := by
  obtain ⟨F, μ, S, ρ, d, r0, s0, x0, p⟩ := w
  refine ⟨F, μ, S, ρ, r0, s0, p.bind.imp fun a F1 μ1 S1 H1 e1 r1 p1 o ho => ?_⟩
  have s1 := s0.ext e1
  refine ⟨F1, μ1, S1, ρ, r1, s1, p1.bind.imp fun b F2 μ2 S2 H2 e2 r2 p2 iv hi => ?_⟩
  exact dat_set r2 (ho.ext e2) hi ((x0.ext e1).ext e2) p2.bind fun q us S3 e3 r3 p3 => p3.at r3 _ ((s1.ext e2).ext e3) fun _ _ => rfl
theorem rdGs_cons {K : PySem.W.Frag} {g : MG} {gs : List MG} {vs : List Nat} {xs : List V} {σ : L2.St} {H : Hp} {Q : L2.St → Hp → Prop} (w : rdGs K W c vs (g :: gs) xs σ H Q) : gCons (rdG K W c vs g) (rdGs K W c vs gs) xs σ H Q := by
  obtain ⟨F, μ, S, ρ, ds, r0, s0, x0, p⟩ := w
  cases ds with
  | nil => exact p.elim
  | cons d ds =>
    obtain ⟨v, r, rfl, h1, h2⟩ := x0.consI
    have p : post K F μ H (M.bind (g c d ρ) (fun ρ1 => gList gs c ds ρ1) S) _ W := p
    refine ⟨v, r, rfl, F, μ, S, ρ, d, r0, s0, h1, p.bind.imp fun ρ1 F1 μ1 S1 H1 e1 r1 p1 σ1 s1 w1 => ?_⟩
    exact ⟨F1, μ1, S1, ρ1, ds, r1, s1, h2.ext e1, p1.imp fun ρ2 F2 μ2 S2 H2 e2 r2 p2 σ2 s2 w2 => p2 σ2 s2 fun us hu => (w2 us hu).trans (w1 us hu)⟩
theorem rdGs_nil {K : PySem.W.Frag} {vs : List Nat} {xs : List V} {σ : L2.St} {H : Hp} {Q : L2.St → Hp → Prop} (w : rdGs K W c vs [] xs σ H Q) : gNil xs σ H Q := by
  obtain ⟨F, μ, S, ρ, ds, r0, s0, x0, p⟩ := w
  cases ds with
  | nil =>
    rw [x0.nilI]
    exact ⟨rfl, p.at r0 σ s0 fun _ _ => rfl⟩
  | cons d ds => exact p.elim
theorem rdG_tup {K : PySem.W.Frag} {gs : List MG} {vs : List Nat} {v : V} {σ : L2.St} {H : Hp} {Q : L2.St → Hp → Prop} (w : rdG K W c vs (gTup gs) v σ H Q) : L2.gTup K gs.length (rdGs K W c vs gs) v σ H Q := by
  obtain ⟨F, μ, S, ρ, d, r0, s0, x0, p⟩ := w
  cases d <;> try exact p.elim
  rename_i xs
  obtain ⟨z, p⟩ := p.chkB
  obtain ⟨a, us, rfl, t, rs⟩ := x0.tupI
  exact ⟨a, us, rfl, t.sq, by rw [rs.length]; exact of_decide_eq_true z, F, μ, S, ρ, xs, r0, s0, rs, p⟩
theorem sGs (ih : Snd G c k n) (es : List Expr) (gs : List MG) (vs : List Nat) (C : Ctx G c W k sc N X) (ht : ∀ e ∈ es, TgOk X sc (n + 1) e) (hs : ∀ e ∈ es, SlIn N vs (n + 1) e) (h : cGs G (n + 1) sc N es = some gs) :
    PGs X es (rdGs X.K W c vs gs) ∧ gs.length = es.length ∧ starFree es = true := by
  unfold cGs at h
  split at h
  · cases h
    exact ⟨⟨fun pins s σ H ws us Q I r w => pgs_nil.run pins s σ H ws us Q I r (rdGs_nil w)⟩, rfl, rfl⟩
  · rename_i e es
    obtain ⟨g, e1, h⟩ := obind h
    obtain ⟨gs', e2, rfl⟩ := omap h
    obtain ⟨q1, q2⟩ := ih.Gt sc N W X e g vs C (ht e (by simp)).down (hs e (by simp)).down e1
    obtain ⟨q3, q4, q5⟩ := ih.Gs sc N W X es gs' vs C (fun e he => (ht e (List.mem_cons_of_mem _ he)).down) (fun e he => (hs e (List.mem_cons_of_mem _ he)).down) e2
    have sf : starFree (e :: es) = true := by
      cases e <;> first | exact q5 | (unfold starFree at q2; cases q2)
    have q := pgs_cons q1 q3 (by rw [(asg_cons X.env sf).1]; rfl)
    exact ⟨⟨fun pins s σ H ws us Q I r w => q.run pins s σ H ws us Q I r (rdGs_cons w)⟩, by rw [List.length_cons, List.length_cons, q4], sf⟩
theorem asg_sub {o i : Expr} {p : Pos} (h : notSlice i = true) (env : PySem.Env) (v : Value) : assign (.Subscript o i p) env v = (do
      let ov ← holding [v] (eval o env)
      let iv ← holding [v, ov] (eval i env)
      standAt p
      holding [v, ov, iv] (PySem.setItem ov iv v)
      release [v, ov, iv] []) := by
  cases i <;> first | rfl | cases h
theorem tgt_tup {sc : Scope} {tg : Expr} {x : Str} {q p : Pos} {as : List Expr} {ks : List Keyword} (h : tgtIt sc tg (.Call (.Name x q) as ks p) = true) (hg : isGl sc x = true) (hx : x = "zip" ∨ x = "enumerate") : ∃ es k p, tg = .Tuple es k p := by
  unfold tgtIt at h
  have e : (isGl sc x && (decide (x = "zip") || decide (x = "enumerate"))) = true := by
    rw [hg, Bool.true_and, Bool.or_eq_true]
    exact hx.imp (fun h => decide_eq_true h) fun h => decide_eq_true h
  dsimp only at h
  rw [e] at h
  dsimp only at h
  split at h
  · exact ⟨_, _, _, rfl⟩
  · cases h
theorem isB_gl {x y : Str} (h : isB G sc x y = true) : isGl sc x = true := by
  unfold isB at h
  rw [Bool.and_eq_true, Bool.and_eq_true] at h
  exact h.2.1
theorem sG (ih : Snd G c k n) (e : Expr) (g : MG) (vs : List Nat) (C : Ctx G c W k sc N X) (ht : TgOk X sc (n + 1) e) (hs : SlIn N vs (n + 1) e) (h : cG G (n + 1) sc N e = some g) : PG X e (rdG X.K W c vs g) ∧ starFree [e] = true := by
  unfold cG at h
  split at h
  · rename_i x p
    split at h
    · rename_i hl
      obtain ⟨i, e1, rfl⟩ := omap h
      have hi : X.N[i]? = some x := by rw [C.hN]; exact slot_get e1
      have hl : Loc X.env.scope x := by rw [C.scp]; exact isLoc_loc hl
      have hf : X.fn x = true ∨ X.env.scope.names.lookup x = some .local := by rw [C.scp]; exact ht
      refine ⟨(pg_name (by rw [C.hN]; exact C.nd) hi hl hf).imp fun v σ H Q w => rdG_name (hs i e1) w, rfl⟩
    · cases h
  · rename_i es a b
    obtain ⟨gs, e1, rfl⟩ := omap h
    obtain ⟨q1, q2, q3⟩ := ih.Gs sc N W X es gs vs C ht hs e1
    obtain ⟨a1, a2⟩ := asg_len X.env q3
    exact ⟨(pg_tup C.calm q1 (by rw [a1, q2]) a2).imp fun v σ H Q w => rdG_tup w, rfl⟩
  · rename_i o i p
    split at h
    · cases h
    · obtain ⟨f, e1, h⟩ := obind h
      obtain ⟨f2, e2, rfl⟩ := omap h
      exact ⟨(pg_sub (ih.E sc N W X o f C e1) (ih.E sc N W X i f2 C e2) set_list (fun v => asg_sub (by assumption) X.env v)).imp fun v σ H Q w => rdG_sub w, rfl⟩
  · cases h
/-! #### what is walked -/
theorem sI (ih : Snd G c k n) (tg e : Expr) (f : MI) (C : Ctx G c W k sc N X) (ht : tgtIt sc tg e = true) (h : cI G (n + 1) sc N e = some f) : PI X tg e (rdI X.K W c f) := by
  have seq : ∀ (e : Expr) (f : MI), (cE G n sc N e).map iSeq = some f → PI X tg e (rdI X.K W c f) := fun e f h => by
    obtain ⟨g, e1, rfl⟩ := omap h
    exact (pi_seqK (ih.E sc N W X e g C e1)).imp fun σ H R w => rdI_seq w
  unfold cI at h
  split at h
  · rename_i x q args p
    split at h
    · rename_i hb
      obtain ⟨rfl, gl, hm⟩ := isB_1 C hb
      have hm := C.blt _ hm (by decide)
      split at h
      · rename_i a
        obtain ⟨g, e1, rfl⟩ := omap h
        have sf := cE_nostar e1
        refine (pi_range1 gl hm (paC (ih.E sc N W X a g C e1) (g := aNil) (pa_nil.imp fun _ _ _ w => rd_nil w) sf) (star_cons X.env sf).1).imp fun σ H R w => rdI_range1 w
      · rename_i a b
        obtain ⟨g, e1, h⟩ := obind h
        obtain ⟨g2, e2, rfl⟩ := omap h
        have sf2 := cE_nostar e2
        have sf : starFree (a :: [b]) = true := by
          have := cE_nostar e1
          cases a <;> first | exact sf2 | (unfold starFree at this; cases this)
        exact (pi_range2 gl hm (paC (ih.E sc N W X a g C e1) (paC (ih.E sc N W X b g2 C e2) (g := aNil) (pa_nil.imp fun _ _ _ w => rd_nil w) sf2) sf) (by rw [(star_cons X.env sf).1, (star_cons X.env sf2).1]; rfl) (star_cons X.env sf2).1).imp fun σ H R w => rdI_range2 w
      · rename_i a b d
        obtain ⟨g, e1, h⟩ := obind h
        obtain ⟨g2, e2, h⟩ := obind h
        obtain ⟨g3, e3, rfl⟩ := omap h
        have sf3 := cE_nostar e3
        have sf2 : starFree (b :: [d]) = true := by
          have := cE_nostar e2
          cases b <;> first | exact sf3 | (unfold starFree at this; cases this)
        have sf : starFree (a :: [b, d]) = true := by
          have := cE_nostar e1
          cases a <;> first | exact sf2 | (unfold starFree at this; cases this)
        exact (pi_range3 gl hm (paC (ih.E sc N W X a g C e1) (paC (ih.E sc N W X b g2 C e2) (paC (ih.E sc N W X d g3 C e3) (g := aNil) (pa_nil.imp fun _ _ _ w => rd_nil w) sf3) sf2) sf) (star_cons X.env sf).1 (star_any X.env p sf2)).imp fun σ H R w => rdI_range3 w
      · cases h
    · split at h
      · rename_i hb
        obtain ⟨rfl, gl, hm⟩ := isB_1 C hb
        have hm := C.blt _ hm (by decide)
        split at h
        · rename_i a
          obtain ⟨g, e1, rfl⟩ := omap h
          have sf := cE_nostar e1
          obtain ⟨es, kk, tp, rfl⟩ := tgt_tup ht (isB_gl hb) (.inr rfl)
          exact (pi_enumK gl hm (paC (ih.E sc N W X a g C e1) (g := aNil) (pa_nil.imp fun _ _ _ w => rd_nil w) sf) (star_cons X.env sf).1).imp fun σ H R w => rdI_enum w
        · cases h
      · split at h
        · rename_i hb
          obtain ⟨rfl, gl, hm⟩ := isB_1 C hb
          have hm := C.blt _ hm (by decide)
          split at h
          · rename_i a b
            obtain ⟨g, e1, h⟩ := obind h
            obtain ⟨g2, e2, rfl⟩ := omap h
            have sf2 := cE_nostar e2
            have sf : starFree (a :: [b]) = true := by
              have := cE_nostar e1
              cases a <;> first | exact sf2 | (unfold starFree at this; cases this)
            obtain ⟨es, kk, tp, rfl⟩ := tgt_tup ht (isB_gl hb) (.inl rfl)
            exact (pi_zipK gl hm (paC (ih.E sc N W X a g C e1) (paC (ih.E sc N W X b g2 C e2) (g := aNil) (pa_nil.imp fun _ _ _ w => rd_nil w) sf2) sf) (star_cons X.env sf).1 (star_any X.env p sf2)).imp fun σ H R w => rdI_zip w
          · cases h
        · exact seq _ f h
  · exact seq _ f h
end
end MI

/-! MI19: what the text computes: expressions, joined. -/
namespace MI
open PySem PySem.Spec PyProof.Rows L2
section
variable {G : GE} {c : Call} {k n : Nat} {sc : Scope} {N : List Str} {W : XK} {X : Cx}
theorem folded_no {e : Expr} (h : notSet e = true) (env : PySem.Env) (x : Value) : foldedSetIterable e env x = pure x := by
  cases e <;> first | rfl | cases h
theorem isB_2 (C : Ctx G c W k sc N X) {x : Str} (h : x ∈ G.blt) (hn : x ≠ "gcd") : X.mg x = none := C.blt x h hn
theorem b_call {x : Str} {h : List D → M D} (B : BOk X x h) (C : Ctx G c W k sc N X) (hg : Gl X x) (hm : X.mg x = none) (hk : okN x = true) {e : Expr} {es : List Expr} {p q : Pos} {f : MA} (ha : PA X (e :: es) (rdA X.K W c f)) (sf : starFree (e :: es) = true) :
    PE X (.Call (.Name x q) (e :: es) [] p) (rdE X.K W c (eB h f)) := by
  obtain ⟨r, hb, kk⟩ := B.ex
  obtain ⟨o1, _, o3⟩ := okN_1 hk
  obtain ⟨st, sf2⟩ := star_cons X.env sf
  have st2 := star_any X.env p sf2
  rcases hb with ⟨id, b1, b2⟩ | ⟨T, b1, b2⟩
  · exact (pe_callB b2 hg hm b1 ha o3 o1 st st2).imp fun σ H Q w => rdB w fun F μ S H2 as xs R rs p => kk R rs p
  · exact (pe_callTy b2 hg hm b1 ha o3 o1 st st2).imp fun σ H Q w => rdB w fun F μ S H2 as xs R rs p => kk R rs p
theorem sLs (ih : Snd G c k n) (a : Expr) (p q : Pos) (f : MA) (C : Ctx G c W k sc N X) (hg : Gl X "list") (hm : ("list" : Str) ∈ G.blt) (h : cLs G (n + 1) sc N a = some f) : PE X (.Call (.Name "list" q) [a] [] p) (rdL X.K W c f) := by
  have hm := C.blt _ hm (by decide)
  have one : ∀ (a : Expr) (f : MA), (cE G n sc N a).map lOf = some f → PE X (.Call (.Name "list" q) [a] [] p) (rdL X.K W c f) := fun a f h => by
    obtain ⟨g, e1, rfl⟩ := omap h
    have sf := cE_nostar e1
    obtain ⟨st, sf2⟩ := star_cons X.env sf
    exact (pe_callTy call_list_of hg hm (by decide +kernel) (pa1 (ih.E sc N W X a g C e1) sf) (by decide) (by decide) st (star_any X.env p sf2)).imp fun σ H Q w => rdL_of w
  unfold cLs at h
  split at h
  · rename_i y qy args pp
    split at h
    · rename_i hb
      obtain ⟨rfl, gl, hr⟩ := isB_1 C hb
      have hr := C.blt _ hr (by decide)
      split at h
      · rename_i b
        obtain ⟨g, e1, rfl⟩ := omap h
        have sf := cE_nostar e1
        exact (pe_listRg C.calm hg hm (prg_1 gl hr (ih.E sc N W X b g C e1) (star_cons X.env sf).1)).imp fun σ H Q w => rdL_rg1 w
      · rename_i b d
        obtain ⟨g, e1, h⟩ := obind h
        obtain ⟨g2, e2, rfl⟩ := omap h
        have sf2 := cE_nostar e2
        have sf : starFree (b :: [d]) = true := by
          have := cE_nostar e1
          cases b <;> first | exact sf2 | (unfold starFree at this; cases this)
        exact (pe_listRg C.calm hg hm (prg_2 gl hr (ih.E sc N W X b g C e1) (ih.E sc N W X d g2 C e2) (star_cons X.env sf).1 (star_cons X.env sf2).1 (star_any X.env pp sf2))).imp fun σ H Q w => rdL_rg2 w
      · cases h
    · exact one _ f h
  · exact one _ f h
theorem rd_mufz {b : Bool} {f : MA} {e : Expr} (h : PE X e (rdL X.K W c f)) : PE X e (rdE X.K W c (if b = true then eMu f else eFz f)) := by
  cases b with
  | true => rw [if_pos rfl]; exact h.imp fun _ _ _ w => rd_mu w
  | false => rw [if_neg (by decide)]; exact h.imp fun _ _ _ w => rd_fz w
theorem sBlt1 (ih : Snd G c k n) (e : Expr) (x : Str) (args : List Expr) (p q : Pos) (f : ME) (C : Ctx G c W k sc N X) (hg : isGl sc x = true) (hk : okN x = true) (hm : x ∈ G.blt) (h : cBlt1 G (n + 1) sc N e x args p = some f) : PE X (.Call (.Name x q) args [] p) (rdE X.K W c f) := by
  have gl := isGl_gl C hg
  unfold cBlt1 at h
  split at h
  · rename_i a
    split at h
    · rename_i hx
      have hx : x = "list" := of_decide_eq_true hx
      subst hx
      obtain ⟨g, e1, rfl⟩ := omap h
      exact rd_mufz (ih.Ls sc N W X a p q g C gl hm e1)
    · split at h
      · rename_i hx
        have hx : x = "sorted" := of_decide_eq_true hx
        subst hx
        obtain ⟨g, e1, rfl⟩ := omap h
        have sf := cE_nostar e1
        obtain ⟨st, sf2⟩ := star_cons X.env sf
        exact rd_mufz ((pe_callB cr_sortedI gl (C.blt _ hm (by decide)) (by decide +kernel) (pa1 (ih.E sc N W X a g C e1) sf) (by decide) (by decide) st (star_any X.env p sf2)).imp fun σ H Q w => rdL_sorted w)
      · obtain ⟨hh, e1, h⟩ := obind h
        obtain ⟨g, e2, rfl⟩ := omap h
        have sf := cE_nostar e2
        have hn : x ≠ "gcd" := fun e => by
          subst e
          have : cB1 "gcd" = none := by decide
          rw [this] at e1
          cases e1
        exact b_call (b1_ok C.calm C.gd C.hu e1) C gl (C.blt x hm hn) hk (paC (ih.E sc N W X a g C e2) (g := aNil) (pa_nil.imp fun _ _ _ w => rd_nil w) sf) sf
  · rename_i a b
    split at h
    · rename_i hx
      have hx : x = "isinstance" := of_decide_eq_true hx
      subst hx
      split at h
      · rename_i y py
        split at h
        · rename_i hy
          rw [Bool.and_eq_true, Bool.and_eq_true] at hy
          obtain ⟨y1, y2, y3⟩ := hy
          obtain ⟨t, e1, h⟩ := obind h
          obtain ⟨g, e2, rfl⟩ := omap h
          have y3 := bool_any y3
          obtain ⟨o1, _, o3⟩ := okN_1 y1
          have yb := cTy_boot e1
          have hn : y ≠ "gcd" := fun e => by
            subst e
            have : cTy "gcd" = none := by decide
            rw [this] at e1
            cases e1
          have he := pe_bltn (pos := py) (v := .ty (tyN t)) (isGl_gl C y2) (C.blt y y3 hn) yb rfl o3 o1
          have sf : starFree (a :: [.Name y py]) = true := by
            have := cE_nostar e2
            cases a <;> first | rfl | (unfold starFree at this; cases this)
          obtain ⟨st, sf2⟩ := star_cons X.env sf
          refine (pe_callB call_isi gl (C.blt _ hm (by decide)) (by decide +kernel) (pa_cons (ih.E sc N W X a g C e2) (pa_cons he pa_nil) st) (by decide) (by decide) st (star_any X.env p sf2)).imp fun σ H Q w => ?_
          obtain ⟨F, μ, S, ρ, r0, s0, p⟩ := w
          refine ⟨F, μ, S, ρ, r0, s0, p.bind.imp fun d F1 μ1 S1 H1 e1 r1 p1 x hx => ?_⟩
          obtain ⟨v, ev, p1⟩ := p1.opt
          obtain ⟨b, eb, rfl⟩ := omap ev
          obtain ⟨u, k1, k2⟩ := dat_ty r1 hx eb
          exact ⟨x, .ty (tyN t), u, .type (tyN t), b, rfl, .ty _, k1, k2, p1.val r1 (rep_bl b)⟩
        · cases h
      · cases h
    · split at h
      · rename_i hx
        have hx : x = "gcd" := of_decide_eq_true hx
        subst hx
        obtain ⟨g, e1, rfl⟩ := omap h
        obtain ⟨a1, a2⟩ := ih.A sc N W X _ g C e1
        obtain ⟨st, sf2⟩ := star_cons X.env a2
        refine (pe_callBfun cr_gcd gl (C.gcd hm) a1 (okN_1 hk).1 st (star_any X.env p sf2)).imp fun σ H Q w => rdB w fun F μ S H2 as xs R rs p => ?_
        unfold gcdD at p
        split at p
        · obtain ⟨v, u, rfl, hv, hu⟩ := rs.two
          exact ⟨_, _, by rw [hv.intI, hu.intI], p.val R (rep_int _)⟩
        · exact p.elim
      · obtain ⟨hh, e1, h⟩ := obind h
        obtain ⟨g, e2, rfl⟩ := omap h
        obtain ⟨a1, a2⟩ := ih.A sc N W X _ g C e2
        have hn : x ≠ "gcd" := fun e => by
          subst e
          have : cB2 "gcd" = none := by decide
          rw [this] at e1
          cases e1
        exact b_call (b2_ok C.calm e1) C gl (C.blt x hm hn) hk a1 a2
  · cases h
theorem sBlt (ih : Snd G c k n) (e : Expr) (x : Str) (args : List Expr) (p q : Pos) (f : ME) (C : Ctx G c W k sc N X) (hg : isGl sc x = true) (hk : okN x = true) (hm : x ∈ G.blt) (h : cBlt G (n + 1) sc N e x args p = some f) : PE X (.Call (.Name x q) args [] p) (rdE X.K W c f) := by
  unfold cBlt at h
  split at h
  · rename_i y qy a sp py
    split at h
    · rename_i hb
      rw [Bool.and_eq_true] at hb
      have hx : x = "tuple" := of_decide_eq_true hb.2
      subst hx
      obtain ⟨rfl, gl2, hm2⟩ := isB_1 C hb.1
      obtain ⟨g, e1, rfl⟩ := omap h
      exact (MIR.pe_zipStar C.calm (isGl_gl C hg) (C.blt _ hm (by decide)) gl2 (C.blt _ hm2 (by decide)) (ih.E sc N W X a g C e1)).imp fun σ H Q w => rdE_zipS w
    · cases h
  · rename_i y qy a py hne
    split at h
    · rename_i hb
      split at h
      · rename_i hx
        have hx : x = "sorted" := of_decide_eq_true hx
        subst hx
        obtain ⟨rfl, gl2, hm2⟩ := isB_1 C hb
        obtain ⟨g, e1, rfl⟩ := omap h
        have sf := cE_nostar e1
        obtain ⟨st, sf2⟩ := star_cons X.env sf
        have he := pe_callTy (p := qy) (pos := py) (cr_setLI C.calm) gl2 (C.blt _ hm2 (by decide)) (by decide +kernel) (pa1 (ih.E sc N W X a g C e1) sf) (by decide) (by decide) st (star_any X.env py sf2)
        exact rd_mufz ((pe_callB (cr_sortedSet C.calm) (isGl_gl C hg) (C.blt _ hm (by decide)) (by decide +kernel) (pa_cons he pa_nil) (by decide) (by decide)).imp fun σ H Q w => rdL_sortedSet w)
      · split at h
        · rename_i hx
          have hx : x = "len" := of_decide_eq_true hx
          subst hx
          obtain ⟨rfl, gl2, hm2⟩ := isB_1 C hb
          obtain ⟨g, e1, rfl⟩ := omap h
          have sf := cE_nostar e1
          obtain ⟨st, sf2⟩ := star_cons X.env sf
          exact (pe_lenSetU (isGl_gl C hg) (C.blt _ hm (by decide)) gl2 (C.blt _ hm2 (by decide)) (ih.E sc N W X a g C e1) C.calm st).imp fun σ H Q w => rdE_lenSet w
        · cases h
    · exact ih.Blt1 sc N W X e x _ p q f C hg hk hm h
  · exact ih.Blt1 sc N W X e x _ p q f C hg hk hm h
theorem findIdx_flat {K : PySem.W.Frag} {F : Fz} {μ : List Addr} {H : Hp} {d : D} {v : V} (hd : Rep K F μ H d v) (fd : flatD d = true) : ∀ {ds : List D} {vs : List V} {j : Nat}, Reps K F μ H ds vs → ds.all flatD = true → ds.findIdx? (fun z => eqF z d) = some j →
    ∃ z, vs[j]? = some z ∧ eqV z v = true ∧ ∀ (m : Nat) (z' : V), m < j → vs[m]? = some z' → eqV z' v = false
  | [], _, _, _, _, h => by simp at h
  | e :: ds, vs, j, r, fl, h => by
    obtain ⟨u, r', rfl, h1, h2⟩ := r.consI
    rw [List.all_cons, Bool.and_eq_true] at fl
    have ee := eqF_of h1 hd fl.1 fd
    rw [List.findIdx?_cons] at h
    split at h
    · rename_i q
      cases h
      exact ⟨u, rfl, by rw [ee, q], fun m z' hm => by omega⟩
    · rename_i q
      obtain ⟨i, e1, rfl⟩ := omap h
      obtain ⟨z, a, b, cc⟩ := findIdx_flat hd fd h2 fl.2 e1
      refine ⟨z, by simpa using a, b, fun m z' hm hz => ?_⟩
      cases m with
      | zero =>
        simp at hz
        subst hz
        rw [ee]
        simpa using q
      | succ m => exact cc m z' (by omega) (by simpa using hz)
theorem sMeth (ih : Snd G c k n) (o : Expr) (m : Str) (args : List Expr) (ap p : Pos) (f : ME) (C : Ctx G c W k sc N X) (hb : plainBase o = true) (hl : (ap.endLine == p.line) = true) (h : cMeth G (n + 1) sc N o m args = some f) : PE X (.Call (.Attribute o m ap) args [] p) (rdE X.K W c f) := by
  unfold cMeth at h
  split at h
  · rename_i a
    obtain ⟨g, e1, h1⟩ := obind h
    clear h
    obtain ⟨g2, e2, h⟩ := obind h1
    clear h1
    have sf := cE_nostar e2
    obtain ⟨st, sf2⟩ := star_cons X.env sf
    have st2 := star_any X.env p sf2
    have few : ((backTo p (starEach [a] X.env)).all (fun x => !x.1) && (backToKw p (keywordEach [] X.env)).all (fun x => x.1.isSome) && decide ([a].length + ([] : List Keyword).length + (if ([] : List Keyword).isEmpty then 0 else 1) < 30)) = true := by
      rw [st]; rfl
    have base := plainB hb m X.env
    split at h
    · rename_i hx
      subst hx
      cases h
      exact (pe_bm (F.plainAttrs_list) F.slot_list_append F.type_list_append (r := rAppend) mt_append (ih.E sc N W X o g C e1) (pa1 (ih.E sc N W X a g2 C e2) sf) base few hl st st2).imp fun σ H Q w => rd_meth w fun F μ S H2 a b x y R ha hb p => dat_app R ha hb p
    · split at h
      · rename_i hx
        subst hx
        cases h
        exact (pe_bm (F.plainAttrs_list) F.slot_list_pop F.type_list_pop (r := rPopAt) mt_popAt (ih.E sc N W X o g C e1) (pa1 (ih.E sc N W X a g2 C e2) sf) base few hl st st2).imp fun σ H Q w => rd_meth w fun F μ S H2 a b x y R ha hb p => dat_pop R ha hb p
      · split at h
        · rename_i hx
          subst hx
          cases h
          refine (pe_bm (F.plainAttrs_list) F.slot_list_index F.type_list_index mt_index (ih.E sc N W X o g C e1) (pa1 (ih.E sc N W X a g2 C e2) sf) base few hl st st2).imp fun σ H Q w => rd_meth w fun F μ S H2 a b x y R ha hb p => ?_
          obtain ⟨v, ev, p⟩ := post.opt p
          obtain ⟨xs, ex, ev⟩ := obind ev
          obtain ⟨q, vs, rfl, hq, rs⟩ := R.list ha ex
          split at ev
          · rename_i z
            rw [Bool.and_eq_true] at z
            obtain ⟨j, ej, rfl⟩ := omap ev
            obtain ⟨z', z1, z2, z3⟩ := findIdx_flat hb z.1 rs z.2 ej
            exact ⟨q, vs, y, j, z', rfl, rfl, SqL.of hq, flat_of hb z.1, flats_of rs z.2, z1, z2, z3, p.val R (rep_int _)⟩
          · cases ev
        · cases h
  · obtain ⟨g, e1, h1⟩ := obind h
    clear h
    have h := h1
    clear h1
    split at h
    · rename_i hx
      subst hx
      cases h
      refine (L2.pe_upper (ih.E sc N W X o g C e1) (plainB hb _ X.env) hl).imp fun σ H Q w => ?_
      obtain ⟨F, μ, S, ρ, r0, s0, p⟩ := w
      refine ⟨F, μ, S, ρ, r0, s0, p.bind.imp fun d F1 μ1 S1 H1 e1 r1 p1 x hx => ?_⟩
      obtain ⟨v, ev, p1⟩ := p1.opt
      cases d <;> try (cases ev; done)
      rename_i z
      unfold upperO at ev
      dsimp only at ev
      split at ev
      · rename_i hz
        cases ev
        exact ⟨⟨z, hx.strI⟩, z, hx.strI, rfl, hz, p1.val r1 (rep_str _)⟩
      · cases ev
    · cases h
  · cases h
end
end MI

/-! MI20: what the text computes: expressions, the induction. -/
namespace MI
open PySem PySem.Spec PyProof.Rows L2
section
variable {G : GE} {c : Call} {k n : Nat} {sc : Scope} {N : List Str} {W : XK} {X : Cx}
theorem own_in {l : List (Str × Nat)} {ts : List Nat} (h : (ts.all fun i => l.any fun q => Nat.beq q.2 i) = true) : ∀ i ∈ ts, i ∈ l.map (·.2) := fun i hi => by
  obtain ⟨q, hq, e⟩ := List.any_eq_true.mp (List.all_eq_true.mp h i hi)
  have e : q.2 = i := Nat.eq_of_beq_eq_true e
  exact List.mem_map.mpr ⟨q, hq, e⟩
theorem key_ok {e : Expr} {q : Key} (h : cKey e = some q) : PE X e (tC (kV q)) := by
  unfold cKey at h
  split at h
  · cases h; exact pe_int
  · cases h; exact pe_str
  · cases h
theorem rd_dct0 {K : PySem.W.Frag} {σ : L2.St} {H : Hp} {Q : VK} (w : rdE K W c eDct0 σ H Q) : tDNewK σ H Q := by
  obtain ⟨F, μ, S, ρ, r0, s0, p⟩ := w
  intro a ha
  obtain ⟨e, r1⟩ := r0.laid ha (.dK [])
  refine p.atE e r1 _ ?_
  unfold Rep
  exact ⟨a, [], rfl, .inr rfl, upd_same, by unfold RepK; rfl⟩
theorem rd_dct1 {K : PySem.W.Frag} {q : Key} {f : ME} {σ : L2.St} {H : Hp} {Q : VK} (w : rdE K W c (eDct1 q f) σ H Q) : tDisp [(tC (kV q), rdE K W c f)] σ H Q := by
  obtain ⟨F, μ, S, ρ, r0, s0, p⟩ := w
  intro a ha
  have e0 : Ext F μ H F μ (upd H a (.dK [])) := ext_upd r0.ref ha
  refine ⟨F, μ, S, ρ, r0.free ha _, s0.ext e0, (p.bind0.ext e0).imp fun d F1 μ1 S1 H1 e1 r1 p1 y hy => ?_⟩
  have hne : upd H a (.dK []) a ≠ none := by rw [upd_same]; simp
  have nm : a ∉ μ1 := fun z => (e1.new a z).elim (r0.fresh ha) hne
  have nF : ¬ F1 a := fun z => (e1.newF a z).elim (r0.freshF ha) hne
  have h1 : H1 a = some (.dK []) := e1.keep a _ upd_same (r0.fresh ha)
  refine ⟨h1, [(q, y)], rfl, by simp, ?_⟩
  have m : Mono F1 μ1 H1 F1 μ1 (upd H1 a (.dK (mergeK [] [(q, y)]))) := ⟨fun _ _ h => h, fun _ h => h, fun {b o} hf h => by rw [upd_ne (show b ≠ a from fun z => nF (z ▸ hf))]; exact h⟩
  have r2 : Rl K F1 μ1 (upd H1 a (.dK (mergeK [] [(q, y)]))) S1 := by
    refine ⟨fun b h => ?_, r1.len, r1.nd, r1.nf, fun n o b h1 h2 => ?_⟩
    · rw [upd_ne (show b ≠ a from fun z => nF (z ▸ h))]; exact r1.fz b h
    · obtain ⟨x, x1, x2⟩ := r1.obj n o b h1 h2
      refine ⟨x, ?_, x2.mono m⟩
      rw [upd_ne (show b ≠ a from fun z => nm (z ▸ List.mem_iff_getElem?.mpr ⟨n, h2⟩))]
      exact x1
  have r3 := r2.still (p := a) (by rw [upd_same]; simp) nm
  have e2 : Ext F μ H F1 μ1 (upd H1 a (.dK (mergeK [] [(q, y)]))) := ext_upd (e0.trans e1) ha
  have e3 : Ext F μ H (addF F1 a) μ1 (upd H1 a (.dK (mergeK [] [(q, y)]))) := ⟨e2.pre, e2.new, fun b h => .inl (e2.frz b h), fun b h => h.elim (e2.newF b) fun z => .inr (z ▸ ha), e2.keep, e2.there, e2.nf⟩
  refine p1.atE e3 r3 _ ?_
  unfold Rep
  refine ⟨a, [(q, y)], rfl, .inr rfl, upd_same, ?_⟩
  unfold RepK
  refine ⟨y, [], rfl, hy.mono (m.trans ⟨fun _ _ h => h, fun _ h => .inl h, fun _ h => h⟩), by unfold RepK; rfl⟩
theorem sL (ih : Snd G c k n) (e : Expr) (f : MA) (C : Ctx G c W k sc N X) (h : cL G (n + 1) sc N e = some f) : PE X e (rdL X.K W c f) := by
  unfold cL at h
  split at h
  · obtain ⟨g, e1, rfl⟩ := omap h
    exact (pe_lst (ih.A sc N W X _ g C e1).1).imp fun σ H Q w => rdL_disp w
  · obtain ⟨g, e1, h⟩ := obind h
    obtain ⟨g2, e2, rfl⟩ := omap h
    exact (pe_op op_cat (ih.E sc N W X _ g C e1) (ih.E sc N W X _ g2 C e2)).imp fun σ H Q w => rdL_cat w
  · obtain ⟨g, e1, h⟩ := obind h
    obtain ⟨g2, e2, rfl⟩ := omap h
    exact (pe_op op_rep (ih.E sc N W X _ g C e1) (ih.E sc N W X _ g2 C e2)).imp fun σ H Q w => rdL_rep w
  · rename_i elt tg it ifs s p
    split at h
    · rename_i hb
      simp only [Bool.and_eq_true] at hb
      obtain ⟨⟨⟨⟨b1, b2⟩, b3⟩, b4⟩, b5⟩ := hb
      obtain ⟨z, e1, h⟩ := obind h
      obtain ⟨g, e2, h⟩ := obind h
      obtain ⟨t, e3, h⟩ := obind h
      obtain ⟨f2, e4, rfl⟩ := omap h
      have b1' : blkC X.N X.env.scope s (ownOf N s) = true := by rw [C.hN, C.scp]; exact b1
      refine (pe_lc C.calm (by rw [C.hN]; exact C.nd) (ih.I sc N W X tg it z C b5 e1) (blkOk_by b1')
        (fun s0 H0 L cl fp => (ih.Gt (relS s sc) N W0 _ tg g (tsl N n tg) (C.blk s0 H0 s cl L fp) (tgOk_blk (fun _ => rfl) n tg b3) (slIn_tsl N n tg) e2).1)
        (fun s0 H0 L cl fp => ih.Ifs (relS s sc) N W0 _ ifs t (C.blk s0 H0 s cl L fp) e3)
        (fun s0 H0 L cl fp => ih.E (relS s sc) N W0 _ elt f2 (C.blk s0 H0 s cl L fp) e4) (folded_no b2 X.env)).imp fun σ H Q w => rdL_comp (own_in b4) w
    · cases h
  · rename_i elt tg it ifs tg2 it2 ifs2 s p
    split at h
    · rename_i hb
      simp only [Bool.and_eq_true] at hb
      obtain ⟨⟨⟨⟨⟨⟨⟨⟨b1, b2⟩, b3⟩, b4⟩, b5⟩, b6⟩, b7⟩, b8⟩, b9⟩ := hb
      obtain ⟨z, e1, h⟩ := obind h
      obtain ⟨g, e2, h⟩ := obind h
      obtain ⟨t, e3, h⟩ := obind h
      obtain ⟨z2, e4, h⟩ := obind h
      obtain ⟨g2, e5, h⟩ := obind h
      obtain ⟨t2, e6, h⟩ := obind h
      obtain ⟨f2, e7, rfl⟩ := omap h
      have b1' : blkC X.N X.env.scope s (ownOf N s) = true := by rw [C.hN, C.scp]; exact b1
      refine (pe_lc2 C.calm (by rw [C.hN]; exact C.nd) (ih.I sc N W X tg it z C b8 e1) (blkOk_by b1') (own_in b7)
        (fun s0 H0 L cl fp => (ih.Gt (relS s sc) N W0 _ tg g (tsl N n tg) (C.blk s0 H0 s cl L fp) (tgOk_blk (fun _ => rfl) n tg b4) (slIn_tsl N n tg) e2).1)
        (fun s0 H0 L cl fp => ih.Ifs (relS s sc) N W0 _ ifs t (C.blk s0 H0 s cl L fp) e3)
        (fun s0 H0 L cl fp => ih.I (relS s sc) N W0 _ tg2 it2 z2 (C.blk s0 H0 s cl L fp) b9 e4)
        (fun s0 H0 L cl fp => (ih.Gt (relS s sc) N W0 _ tg2 g2 (tsl N n tg2) (C.blk s0 H0 s cl L fp) (tgOk_blk (fun _ => rfl) n tg2 b5) (slIn_tsl N n tg2) e5).1)
        (fun s0 H0 L cl fp => ih.Ifs (relS s sc) N W0 _ ifs2 t2 (C.blk s0 H0 s cl L fp) e6)
        (fun s0 H0 L cl fp => ih.E (relS s sc) N W0 _ elt f2 (C.blk s0 H0 s cl L fp) e7) (folded_no b2 X.env) (fun env x => folded_no b3 env x)).imp fun σ H Q w => rdL_comp2 (own_in b6) w
    · cases h
  · cases h
theorem sE (ih : Snd G c k n) (e : Expr) (f : ME) (C : Ctx G c W k sc N X) (h : cE G (n + 1) sc N e = some f) : PE X e (rdE X.K W c f) := by
  unfold cE at h
  split at h
  · rename_i cc _ _
    obtain ⟨d, e1, rfl⟩ := omap h
    cases cc <;> first | (cases e1; done) | skip
    all_goals cases e1
    · exact pe_non.imp fun _ _ _ w => rd_const (fun _ _ _ => rep_non) w
    · exact pe_bl.imp fun _ _ _ w => rd_const (fun _ _ _ => rep_bl _) w
    · exact pe_int.imp fun _ _ _ w => rd_const (fun _ _ _ => rep_int _) w
    · exact pe_str.imp fun _ _ _ w => rd_const (fun _ _ _ => rep_str _) w
  · rename_i x p
    split at h
    · cases h
    · rename_i hk
      obtain ⟨o1, o2, o3⟩ := okN_1 hk
      split at h
      · rename_i hv
        obtain ⟨i, e1, rfl⟩ := omap h
        exact (pe_var (by rw [C.hN]; exact slot_get e1) (by rw [C.scp]; exact isVis_vis hv) o1 o2).imp fun _ _ _ w => rd_var w
      · split at h
        · rename_i hg
          obtain ⟨d, e1, rfl⟩ := omap h
          obtain ⟨u, v, h1, h2, h3⟩ := C.cst x d e1
          exact (pe_glob (isGl_gl C hg) h1 h2 o1).imp fun _ _ _ w => rd_const h3 w
        · cases h
  · rename_i a op b p
    split at h
    · obtain ⟨g, e1, rfl⟩ := omap h
      exact (ih.L sc N W X _ g C e1).imp fun _ _ _ w => rd_mu w
    · obtain ⟨hh, e0, h⟩ := obind h
      obtain ⟨g, e1, h⟩ := obind h
      obtain ⟨g2, e2, rfl⟩ := omap h
      obtain ⟨r, o, kk⟩ := op_ok (X := X) e0
      exact (pe_op o (ih.E sc N W X _ g C e1) (ih.E sc N W X _ g2 C e2)).imp fun σ H Q w => rd2 w fun F μ S H2 a b x y R ha hb p => kk R ha hb p
  · obtain ⟨g, e1, rfl⟩ := omap h
    exact (pe_un un_neg (ih.E sc N W X _ g C e1)).imp fun σ H Q w => rd1 w fun F μ S H2 a x R ha p => dat_negD R ha p
  · obtain ⟨g, e1, rfl⟩ := omap h
    exact (pe_not (ih.E sc N W X _ g C e1)).imp fun σ H Q w => rd_not w
  · exact ih.Bo sc N W X _ _ _ f C h
  · obtain ⟨g, e1, h⟩ := obind h
    obtain ⟨g2, e2, rfl⟩ := omap h
    obtain ⟨r, o, kk⟩ := cmp_ok (X := X) (by have := C.hu; omega) _
    refine (pe_cmpR o (ih.E sc N W X _ g C e1) (ih.E sc N W X _ g2 C e2) (behind_no (cE_notSet e2))).imp fun σ H Q w => ?_
    exact rd_cmp (rd_ofB w) (fun b H q => q) kk
  · obtain ⟨g, e1, h⟩ := obind h
    obtain ⟨g2, e2, h⟩ := obind h
    obtain ⟨g3, e3, rfl⟩ := omap h
    obtain ⟨r, o, kk⟩ := cmp_ok (X := X) (by have := C.hu; omega) _
    obtain ⟨r', o', kk'⟩ := cmp_ok (X := X) (by have := C.hu; omega) _
    refine (pe_chain o o' (ih.E sc N W X _ g C e1) (ih.E sc N W X _ g2 C e2) (ih.E sc N W X _ g3 C e3) (lastM (cE_notSet e3))).imp fun σ H Q w => ?_
    exact rd_chain (rd_ofB w) (fun b H q => q) kk kk'
  · obtain ⟨t, e1, h⟩ := obind h
    obtain ⟨g, e2, h⟩ := obind h
    obtain ⟨g2, e3, rfl⟩ := omap h
    exact (pe_ifExp (ih.T sc N W X _ t C e1) (ih.E sc N W X _ g C e2) (ih.E sc N W X _ g2 C e3)).imp fun σ H Q w => rd_if w
  · obtain ⟨g, e1, rfl⟩ := omap h
    exact (pe_tup (ih.A sc N W X _ g C e1).1).imp fun σ H Q w => rd_tup w
  · cases h
    exact pe_dnewK.imp fun σ H Q w => rd_dct0 w
  · rename_i kk v p
    obtain ⟨q, e0, h⟩ := obind h
    obtain ⟨g, e1, rfl⟩ := omap h
    exact (pe_disp (pps_cons (key_ok e0) (ih.E sc N W X v g C e1) pps_nil) rfl rfl (by simp) (by simp)).imp fun σ H Q w => rd_dct1 w
  · obtain ⟨g, e1, rfl⟩ := omap h
    exact rd_mufz (ih.L sc N W X _ g C e1)
  · obtain ⟨g, e1, rfl⟩ := omap h
    exact rd_mufz (ih.L sc N W X _ g C e1)
  · rename_i a lo hi st p1 p2
    split at h
    · obtain ⟨g, e1, h⟩ := obind h
      obtain ⟨l, e2, h⟩ := obind h
      obtain ⟨u, e3, rfl⟩ := omap h
      exact (pe_slice sl_all (ih.E sc N W X _ g C e1) (ih.O sc N W X _ l C e2) (ih.O sc N W X _ u C e3)).imp fun σ H Q w => rd_slice w
    · rename_i m
      split at h
      · split at h
        · rename_i hm
          obtain ⟨g, e1, rfl⟩ := omap h
          have hm' : ∃ k q1 q2, m = .UnaryOp .USub (.Constant (.int 1) k q1) q2 := by
            unfold isMinus1 at hm
            split at hm
            · exact ⟨_, _, _, rfl⟩
            · cases hm
          obtain ⟨kk, q1, q2, rfl⟩ := hm'
          refine (pe_back (ih.E sc N W X _ g C e1)).imp fun σ H Q w => ?_
          obtain ⟨F, μ, S, ρ, r0, s0, p⟩ := w
          exact ⟨F, μ, S, ρ, r0, s0, p.bind.imp fun d F1 μ1 S1 H1 e1 r1 p1 x hx => dat_back r1 hx p1⟩
        · cases h
      · cases h
  · rename_i a i p hns
    split at h
    · rename_i hi
      obtain ⟨g, e1, h⟩ := obind h
      obtain ⟨g2, e2, rfl⟩ := omap h
      exact (pe_ix ix_seq (ih.E sc N W X _ g C e1) (ih.E sc N W X _ g2 C e2) (plainIx hi)).imp fun σ H Q w => rd2 w fun F μ S H2 a b x y R ha hb p => dat_item R ha hb p
    · cases h
  · rename_i x q args kws p
    split at h
    · cases h
    · rename_i hg
      rw [Bool.and_eq_true] at hg
      split at h
      · rename_i i hi
        exact sCall ih C hg.1 hg.2 hi h
      · split at h
        · split at h
          · rename_i hb
            exact ih.Blt sc N W X _ x args p q f C hg.1 hg.2 (bool_any hb) h
          · cases h
        · cases h
  · rename_i o m ap args p
    split at h
    · rename_i hb
      rw [Bool.and_eq_true] at hb
      exact ih.Meth sc N W X o m args ap p f C hb.1 hb.2 h
    · cases h
  · cases h
end
theorem snd (G : GE) (c : Call) (k : Nat) : ∀ n, Snd G c k n
  | 0 => by
    constructor
    all_goals intros
    all_goals first
      | (rename_i h; unfold cE at h; cases h; done)
      | (rename_i h; unfold cBo at h; cases h; done)
      | (rename_i h; unfold cT at h; cases h; done)
      | (rename_i h; unfold cTo at h; cases h; done)
      | (rename_i h; unfold cA at h; cases h; done)
      | (rename_i h; unfold cO at h; cases h; done)
      | (rename_i h; unfold cL at h; cases h; done)
      | (rename_i h; unfold cIfs at h; cases h; done)
      | (rename_i h; unfold cI at h; cases h; done)
      | (rename_i h; unfold cG at h; cases h; done)
      | (rename_i h; unfold cGs at h; cases h; done)
      | (rename_i h; unfold cBlt at h; cases h; done)
      | (rename_i h; unfold cBlt1 at h; cases h; done)
      | (rename_i h; unfold cLs at h; cases h; done)
      | (rename_i h; unfold cMeth at h; cases h; done)
  | n + 1 => by
    have ih := snd G c k n
    exact ⟨fun sc N W X e f C h => sE ih e f C h, fun sc N W X op es p f C h => sBo ih op es p f C h, fun sc N W X e f C h => sT ih e f C h, fun sc N W X op es p f C h => sTo ih op es p f C h,
      fun sc N W X es f C h => sA ih es f C h, fun sc N W X kws f C h => sKW ih kws f C h, fun sc N W X o f C h => sO ih o f C h, fun sc N W X e f C h => sL ih e f C h, fun sc N W X es f C h => sIfs ih es f C h,
      fun sc N W X tg e f C ht h => sI ih tg e f C ht h, fun sc N W X e g vs C h1 h2 h => sG ih e g vs C h1 h2 h, fun sc N W X es gs vs C h1 h2 h => sGs ih es gs vs C h1 h2 h,
      fun sc N W X e x args p q f C h1 h2 h3 h => sBlt ih e x args p q f C h1 h2 h3 h, fun sc N W X e x args p q f C h1 h2 h3 h => sBlt1 ih e x args p q f C h1 h2 h3 h,
      fun sc N W X a p q f C h1 h2 h => sLs ih a p q f C h1 h2 h, fun sc N W X o m args ap p f C h1 h2 h => sMeth ih o m args ap p f C h1 h2 h⟩
end MI

/-! MI21: what the text computes: statements. -/
namespace MI
open PySem PySem.Spec PyProof.Rows L2
section
variable {G : GE} {c : Call} {k n : Nat} {sc : Scope} {N : List Str} {W : XK} {X : Cx}
theorem swaps_no {e : Expr} (h : notComp e = true) (t : Option Expr) (l : Nat) (env : PySem.Env) : swapsWith e t l env = pure false := by
  cases e <;> first | rfl | cases h
theorem swaps_sub {elt : Expr} {gs : List Comprehension} {s : Scope} {p : Pos} {o i : Expr} {q : Pos} (l : Nat) (env : PySem.Env) : swapsWith (.ListComp elt gs s p) (some (.Subscript o i q)) l env = pure false := rfl
theorem swaps_name {elt : Expr} {gs : List Comprehension} {s : Scope} {p px : Pos} {x : Str} (l : Nat) (env : PySem.Env) (hk : env.scope.kind = .function) : swapsWith (.ListComp elt gs s p) (some (.Name x px)) l env = pure (swB env.scope x px s p) := by
  have hb : env.blockKind = .function := by unfold Env.blockKind; rw [hk]; rfl
  have hkd : env.kindOf x = env.scope.names.lookup x := rfl
  unfold swapsWith swB
  simp only [hb, hkd, Expr.pos]
  have e1 : (ScopeKind.function == ScopeKind.function) = true := rfl
  rw [e1, Bool.true_and]
  have e2 : (env.scope.names.lookup x == some NameKind.local) = decide (env.scope.names.lookup x = some NameKind.local) := by
    cases env.scope.names.lookup x with
    | none => rfl
    | some kk => cases kk <;> rfl
  rw [e2]
theorem stores_no {t e : Expr} (h : (match t, e with | .Tuple _ _ _, .Tuple _ _ _ => false | .List _ _, .Tuple _ _ _ => false | _, _ => true) = true) (env : PySem.Env) : swappedStores [t] e env = pure none := by
  unfold swappedStores
  cases t <;> cases e <;> first | rfl | cases h
/-! #### readings -/
theorem rdS_asg {K : PySem.W.Frag} {f : ME} {g : MG} {vs : List Nat} {D : Ends} {σ : L2.St} {H : Hp} (w : rdS K W c (sAsg f g) D σ H) : tAsg (rdE K W c f) (rdG K W c vs g) D σ H := by
  obtain ⟨F, μ, S, ρ, r0, s0, p⟩ := w
  refine ⟨F, μ, S, ρ, r0, s0, p.bind.imp fun d F1 μ1 S1 H1 e1 r1 p1 x hx => ?_⟩
  exact ⟨F1, μ1, S1, ρ, d, r1, s0.ext e1, hx, p1.bind.imp fun ρ1 F2 μ2 S2 H2 e2 r2 p2 σ1 s1 _ => p2.at r2 σ1 s1⟩
theorem rdS_ret {K : PySem.W.Frag} {f : ME} {D : Ends} {σ : L2.St} {H : Hp} (w : rdS K W c (sRet f) D σ H) : tRet (rdE K W c f) D σ H := by
  obtain ⟨F, μ, S, ρ, r0, s0, p⟩ := w
  exact ⟨F, μ, S, ρ, r0, s0, p.bind.imp fun d F1 μ1 S1 H1 e1 r1 p1 x hx => p1.at r1 x hx⟩
theorem rdS_drop {K : PySem.W.Frag} {f : ME} {D : Ends} {σ : L2.St} {H : Hp} (w : rdS K W c (sDrop f) D σ H) : tDrop (rdE K W c f) D σ H := by
  obtain ⟨F, μ, S, ρ, r0, s0, p⟩ := w
  exact ⟨F, μ, S, ρ, r0, s0, p.bind.imp fun d F1 μ1 S1 H1 e1 r1 p1 x hx => p1.at r1 σ (s0.ext e1)⟩
theorem rdS_if {K : PySem.W.Frag} {t : MT} {a b : MS} {D : Ends} {σ : L2.St} {H : Hp} (w : rdS K W c (sIf t a b) D σ H) : tIfS (rdT K W c t) (rdS K W c a) (rdS K W c b) D σ H := by
  obtain ⟨F, μ, S, ρ, r0, s0, p⟩ := w
  refine ⟨F, μ, S, ρ, r0, s0, p.bind.imp fun r F1 μ1 S1 H1 e1 r1 p1 => ?_⟩
  cases r with
  | true => simp only [if_true]; exact ⟨F1, μ1, S1, ρ, r1, s0.ext e1, p1⟩
  | false => simp only [Bool.false_eq_true, if_false]; exact ⟨F1, μ1, S1, ρ, r1, s0.ext e1, p1⟩
theorem rdS_seq {K : PySem.W.Frag} {a b : MS} {D : Ends} {σ : L2.St} {H : Hp} (w : rdS K W c (sSeq a b) D σ H) : tSeq (rdS K W c a) (rdS K W c b) D σ H := by
  obtain ⟨F, μ, S, ρ, r0, s0, p⟩ := w
  refine ⟨F, μ, S, ρ, r0, s0, p.bind.imp fun fl F1 μ1 S1 H1 e1 r1 p1 => ?_⟩
  cases fl with
  | nx ρ1 => exact fun σ1 s1 => ⟨F1, μ1, S1, ρ1, r1, s1, p1⟩
  | rt d => exact p1.at r1
  | bk ρ1 => exact p1.at r1
  | ct ρ1 => exact p1.at r1
theorem rdS_par {K : PySem.W.Frag} {f : MA} {is : List Nat} {D : Ends} {σ : L2.St} {H : Hp} (w : rdS K W c (sPar f is) D σ H) : rdA K W c f σ H fun vs H1 => vs.length = is.length ∧ ∃ F μ ds S ρ, Rl K F μ H1 S ∧ SlR K F μ H1 ρ σ ∧ Reps K F μ H1 ds vs ∧ ∀ σ', SlR K F μ H1 (setAll ρ is ds) σ' → D.nx σ' H1 := by
  obtain ⟨F, μ, S, ρ, r0, s0, p⟩ := w
  refine ⟨F, μ, S, ρ, r0, s0, p.bind.imp fun ds F1 μ1 S1 H1 e1 r1 p1 vs hv => ?_⟩
  obtain ⟨z, p1⟩ := p1.chkB
  exact ⟨by rw [hv.length]; exact of_decide_eq_true z, F1, μ1, ds, S1, ρ, r1, s0.ext e1, hv, p1.at r1⟩
/-- a body's context -/
structure SCtx (G : GE) (c : Call) (W : XK) (k : Nat) (sc : Scope) (N : List Str) (X : Cx) : Prop where
  C : Ctx G c W k sc N X
  fn : ∀ x, X.fn x = true
  po : PassesOwn (model X.prog X.w) X.A X.env X.xe
  kind : sc.kind = .function
/-- the name's store within the comprehension -/
theorem sSetL {m : Nat} {elt : Expr} {gs : List Comprehension} {s : Scope} {p px sp : Pos} {x : Str} {i : Nat} {f : MA} (C : SCtx G c W k sc N X) (hi : slot N x = some i) (hs : swB sc x px s p = true) (h : cL G (m + 1) sc N (.ListComp elt gs s p) = some f) :
    PS X (.Assign [.Name x px] (.ListComp elt gs s p) sp) (fun D σ H => rdL X.K W c f σ H fun y H1 => L2.gName i y σ H1 D.nx) := by
  have ih := snd G c k m
  have CC := C.C
  have hyl : X.env.scope.names.lookup x = some .local := by
    unfold swB at hs
    rw [Bool.and_eq_true, Bool.and_eq_true] at hs
    rw [CC.scp]
    exact of_decide_eq_true hs.1.1
  have hsw : ∀ l, swapsWith (.ListComp elt gs s p) (some (.Name x px)) l X.env = pure true := fun l => by
    rw [swaps_name l X.env (by rw [CC.scp]; exact C.kind), CC.scp, hs]
  have hN : X.N.Nodup := by rw [CC.hN]; exact CC.nd
  have hx : X.N[i]? = some x := by rw [CC.hN]; exact slot_get hi
  unfold cL at h
  split at h
  · rename_i z; cases z
  · rename_i z; cases z
  · rename_i z; cases z
  · rename_i elt' tg it ifs s' p' z
    obtain ⟨z1, z2, z3, z4⟩ := (by simpa using z : elt = elt' ∧ gs = [⟨tg, it, ifs, 0⟩] ∧ s = s' ∧ p = p')
    subst z1 z2 z3 z4
    split at h
    · rename_i hb
      simp only [Bool.and_eq_true] at hb
      obtain ⟨⟨⟨⟨b1, b2⟩, b3⟩, b4⟩, b5⟩ := hb
      obtain ⟨z, e1, h⟩ := obind h
      obtain ⟨g, e2, h⟩ := obind h
      obtain ⟨t, e3, h⟩ := obind h
      obtain ⟨f2, e4, rfl⟩ := omap h
      have b1' : blkC X.N X.env.scope s (ownOf N s) = true := by rw [CC.hN, CC.scp]; exact b1
      refine (ps_setLc (wi := rdI X.K W c z) (g := rdG X.K W0 c (tsl N m tg) g) (tt := rdT X.K W0 c t) (te := rdE X.K W0 c f2) CC.calm hN hx hyl (hsw _) (ih.I sc N W X tg it z CC b5 e1) (blkOk_by b1')
        (fun s0 H0 L cl fp => (ih.Gt (relS s sc) N W0 _ tg g (tsl N m tg) (CC.blk s0 H0 s cl L fp) (tgOk_blk (fun _ => rfl) m tg b3) (slIn_tsl N m tg) e2).1)
        (fun s0 H0 L cl fp => ih.Ifs (relS s sc) N W0 _ ifs t (CC.blk s0 H0 s cl L fp) e3)
        (fun s0 H0 L cl fp => ih.E (relS s sc) N W0 _ elt f2 (CC.blk s0 H0 s cl L fp) e4) (folded_no b2 X.env)).imp fun D σ H w => ?_
      exact rdL_comp (own_in b4) w
    · cases h
  · rename_i elt' tg it ifs tg2 it2 ifs2 s' p' z
    obtain ⟨z1, z2, z3, z4⟩ := (by simpa using z : elt = elt' ∧ gs = [⟨tg, it, ifs, 0⟩, ⟨tg2, it2, ifs2, 0⟩] ∧ s = s' ∧ p = p')
    subst z1 z2 z3 z4
    split at h
    · rename_i hb
      simp only [Bool.and_eq_true] at hb
      obtain ⟨⟨⟨⟨⟨⟨⟨⟨b1, b2⟩, b3⟩, b4⟩, b5⟩, b6⟩, b7⟩, b8⟩, b9⟩ := hb
      obtain ⟨z, e1, h⟩ := obind h
      obtain ⟨g, e2, h⟩ := obind h
      obtain ⟨t, e3, h⟩ := obind h
      obtain ⟨z2, e4, h⟩ := obind h
      obtain ⟨g2, e5, h⟩ := obind h
      obtain ⟨t2, e6, h⟩ := obind h
      obtain ⟨f2, e7, rfl⟩ := omap h
      have b1' : blkC X.N X.env.scope s (ownOf N s) = true := by rw [CC.hN, CC.scp]; exact b1
      refine (ps_setLc2 (wi := rdI X.K W c z) (g := rdG X.K W0 c (tsl N m tg) g) (tt := rdT X.K W0 c t) (wi1 := rdI X.K W0 c z2) (g1 := rdG X.K W0 c (tsl N m tg2) g2) (tt1 := rdT X.K W0 c t2) (te := rdE X.K W0 c f2) CC.calm hN hx hyl (hsw _) (ih.I sc N W X tg it z CC b8 e1) (blkOk_by b1') (own_in b7)
        (fun s0 H0 L cl fp => (ih.Gt (relS s sc) N W0 _ tg g (tsl N m tg) (CC.blk s0 H0 s cl L fp) (tgOk_blk (fun _ => rfl) m tg b4) (slIn_tsl N m tg) e2).1)
        (fun s0 H0 L cl fp => ih.Ifs (relS s sc) N W0 _ ifs t (CC.blk s0 H0 s cl L fp) e3)
        (fun s0 H0 L cl fp => ih.I (relS s sc) N W0 _ tg2 it2 z2 (CC.blk s0 H0 s cl L fp) b9 e4)
        (fun s0 H0 L cl fp => (ih.Gt (relS s sc) N W0 _ tg2 g2 (tsl N m tg2) (CC.blk s0 H0 s cl L fp) (tgOk_blk (fun _ => rfl) m tg2 b5) (slIn_tsl N m tg2) e5).1)
        (fun s0 H0 L cl fp => ih.Ifs (relS s sc) N W0 _ ifs2 t2 (CC.blk s0 H0 s cl L fp) e6)
        (fun s0 H0 L cl fp => ih.E (relS s sc) N W0 _ elt f2 (CC.blk s0 H0 s cl L fp) e7) (folded_no b2 X.env) (fun env x => folded_no b3 env x)).imp fun D σ H w => ?_
      exact rdL_comp2 (own_in b6) w
    · cases h
  · cases h
end
end MI

/-! MI22: statements, joined. -/
namespace MI
open PySem PySem.Spec PyProof.Rows L2
def fName (env : PySem.Env) (line : Nat) : Expr → Option Str
    | .Name id pos => if env.kindOf id == some .local && pos.line == line then some id else none
    | _ => none
def filtN (env : PySem.Env) (line : Nat) (ts : List Expr) : List Str := ts.filterMap (fName env line)
theorem kloc (env : PySem.Env) (x : Str) : (env.kindOf x == some NameKind.local) = decide (env.scope.names.lookup x = some .local) := by
  show (env.scope.names.lookup x == some NameKind.local) = _
  cases env.scope.names.lookup x with
  | none => rfl
  | some kk => cases kk <;> rfl
theorem filt_some (env : PySem.Env) (line : Nat) : ∀ {ts : List Expr} {xs : List Str}, namesOf env.scope line ts = some xs → filtN env line ts = xs ∧ xs.length = ts.length
  | [], xs, h => by cases h; exact ⟨rfl, rfl⟩
  | t :: ts, xs, h => by
    unfold namesOf at h
    split at h
    · rename_i z; cases z
    · rename_i x p es z
      obtain ⟨z1, z2⟩ := List.cons.inj z
      subst z1 z2
      split at h
      · rename_i hq
        obtain ⟨ys, e, rfl⟩ := omap h
        obtain ⟨a, b⟩ := filt_some env line e
        refine ⟨?_, by rw [List.length_cons, List.length_cons, b]⟩
        have e1 : fName env line (.Name x p) = some x := by
          unfold fName
          dsimp only
          rw [kloc, if_pos hq]
        unfold filtN at a ⊢
        rw [List.filterMap_cons, e1, a]
      · cases h
    · cases h
theorem filt_le (env : PySem.Env) (line : Nat) (ts : List Expr) : (filtN env line ts).length ≤ ts.length := List.length_filterMap_le ..
theorem filt_none (env : PySem.Env) (line : Nat) : ∀ {ts : List Expr}, namesOf env.scope line ts = none → (filtN env line ts).length < ts.length
  | [], h => by cases h
  | t :: ts, h => by
    have le := filt_le env line ts
    have short : (fName env line t = none ∨ (filtN env line ts).length < ts.length) → (filtN env line (t :: ts)).length < (t :: ts).length := fun hh => by
      unfold filtN at hh le ⊢
      rw [List.filterMap_cons, List.length_cons]
      cases q : fName env line t with
      | none => show (ts.filterMap (fName env line)).length < _; omega
      | some x =>
        rw [q] at hh
        rcases hh with hh | hh
        · cases hh
        · show (x :: ts.filterMap (fName env line)).length < _
          rw [List.length_cons]; omega
    unfold namesOf at h
    split at h
    · cases h
    · rename_i x p es z
      obtain ⟨z1, z2⟩ := List.cons.inj z
      subst z1 z2
      split at h
      · rename_i hq
        cases e : namesOf env.scope line ts with
        | none => exact short (.inr (filt_none env line e))
        | some ys => rw [e] at h; cases h
      · rename_i hq
        refine short (.inl ?_)
        unfold fName
        dsimp only
        rw [kloc, if_neg (by rw [hq]; decide)]
    · rename_i z1 z2
      refine short (.inl ?_)
      cases t <;> first | rfl | exact (z2 _ _ _ rfl).elim
theorem swap_eq (ts vs : List Expr) (k k2 : Nat) (p p2 : Pos) (env : PySem.Env) (hk : env.scope.kind = .function) (hl : ts.length = 2 ∨ ts.length = 3) (hv : vs.length = ts.length) (hs : starFree vs = true) :
    swappedStores [.Tuple ts k p] (.Tuple vs k2 p2) env = (if (filtN env ((ts.head?.map (·.pos.line)).getD 0) ts).length != ts.length || (filtN env ((ts.head?.map (·.pos.line)).getD 0) ts).eraseDups.length != (filtN env ((ts.head?.map (·.pos.line)).getD 0) ts).length then pure none else
      if vs.all (foldedForSure 8) then pure none else if vs.all (constantsAlone 8) then unsupported "assign.tuple-of-constant-expressions:order-of-the-stores" else pure (some (filtN env ((ts.head?.map (·.pos.line)).getD 0) ts))) := by
  have hb : env.blockKind = .function := by unfold Env.blockKind; rw [hk]; rfl
  have st : (vs.any fun | .Starred .. => true | _ => false) = false := by
    clear hv hl
    induction vs with
    | nil => rfl
    | cons v vs ih =>
      have hs2 : starFree vs = true := (star_cons env hs).2
      rw [List.any_cons, ih hs2]
      cases v <;> first | rfl | (unfold starFree at hs; cases hs)
  unfold swappedStores
  have c1 : (!(ts.length == 2 || ts.length == 3) || vs.length != ts.length || env.blockKind != .function) = false := by
    rw [hb, hv]
    rcases hl with h | h <;> rw [h] <;> rfl
  simp only [c1, Bool.false_eq_true, if_false, pure_bind]
  generalize hz : vs.any _ = bz
  have ez : bz = false := by
    refine hz.symm.trans (Eq.trans ?_ st)
    congr 1
  rw [ez, if_neg (by decide)]
  generalize hg : List.filterMap _ ts = names
  have e : names = filtN env ((ts.head?.map (·.pos.line)).getD 0) ts := by
    rw [← hg]
    unfold filtN
    congr 1
  rw [← e]
  repeat' split
  all_goals rfl
theorem dedups2 {x y : Str} (h : [x, y].Nodup) : ([x, y].eraseDups).length = 2 := by
  have h1 : x ≠ y := by simpa using h
  have e : (y == x) = false := by simpa using (Ne.symm h1)
  simp [List.eraseDups_cons, List.eraseDups_nil, e]
theorem dedups3 {x y z : Str} (h : [x, y, z].Nodup) : ([x, y, z].eraseDups).length = 3 := by
  obtain ⟨⟨h1, h2⟩, h3⟩ : (x ≠ y ∧ x ≠ z) ∧ y ≠ z := by simpa using h
  have e1 : (y == x) = false := by simpa using (Ne.symm h1)
  have e2 : (z == x) = false := by simpa using (Ne.symm h2)
  have e3 : (z == y) = false := by simpa using (Ne.symm h3)
  simp [List.eraseDups_cons, List.eraseDups_nil, e1, e2, e3]
section
variable {G : GE} {c : Call} {k n : Nat} {sc : Scope} {N : List Str} {W : XK} {X : Cx}
theorem slot_inj {x y : Str} {i : Nat} (h1 : slot N x = some i) (h2 : slot N y = some i) : x = y := by
  have a := slot_get h1
  have b := slot_get h2
  rw [a] at b
  exact Option.some.inj b
/-- names of a target, by shape -/
theorem names_shape {line : Nat} : ∀ {ts : List Expr} {xs : List Str}, namesOf sc line ts = some xs → ∃ ps : List Pos, ts = (xs.zip ps).map (fun q => Expr.Name q.1 q.2) ∧ ps.length = xs.length ∧ ∀ x ∈ xs, sc.names.lookup x = some .local
  | [], xs, h => by cases h; exact ⟨[], rfl, rfl, fun _ h => by cases h⟩
  | t :: ts, xs, h => by
    unfold namesOf at h
    split at h
    · rename_i z; cases z
    · rename_i x p es z
      obtain ⟨z1, z2⟩ := List.cons.inj z
      subst z1 z2
      split at h
      · rename_i hq
        obtain ⟨ys, e, rfl⟩ := omap h
        obtain ⟨ps, a, b, cc⟩ := names_shape e
        rw [Bool.and_eq_true] at hq
        refine ⟨p :: ps, by rw [List.zip_cons_cons, List.map_cons, ← a], by simp [b], fun y hy => ?_⟩
        rcases List.mem_cons.mp hy with hy | hy
        · rw [hy]; exact of_decide_eq_true hq.1
        · exact cc y hy
      · cases h
    · cases h
theorem sPar2 (C : SCtx G c W k sc N X) {ts vs : List Expr} {tk vk : Nat} {tp vp p : Pos} {xs : List Str} {is : List Nat} {f : MA} (hl : ts.length = 2 ∨ ts.length = 3) (hv : vs.length = ts.length) (hx : namesOf sc ((ts.head?.map (·.pos.line)).getD 0) ts = some xs) (hn : xs.Nodup) (hs : starFree vs = true)
    (h1 : vs.all (foldedForSure 8) = false) (h2 : vs.all (constantsAlone 8) = false) (hi : xs.mapM (slot N) = some is) (ha : PA X vs (rdA X.K W c f)) : PS X (.Assign [.Tuple ts tk tp] (.Tuple vs vk vp) p) (rdS X.K W c (sPar f is)) := by
  have hsc : X.env.scope = sc := C.C.scp
  obtain ⟨fs, fl⟩ := filt_some X.env _ (by rw [hsc]; exact hx)
  have sw := swap_eq ts vs tk vk tp vp X.env (by rw [hsc]; exact C.kind) hl hv hs
  rw [fs, h1, h2] at sw
  obtain ⟨ps, e1, e2, loc⟩ := names_shape hx
  have hN : X.N.Nodup := by rw [C.C.hN]; exact C.C.nd
  have hlen : xs.length = 2 ∨ xs.length = 3 := by rw [fl]; exact hl
  match xs, ps, hlen with
  | [x, y], [p1, p2], _ =>
    subst e1
    rw [if_neg (by rw [dedups2 hn]; exact fun h => Bool.noConfusion (show false = true from h)), if_neg (by decide), if_neg (by decide)] at sw
    match vs, hv with
    | [a, b], _ =>
      rw [List.mapM_cons] at hi
      cases q1 : slot N x with
      | none => rw [q1] at hi; cases hi
      | some i =>
        rw [q1] at hi
        have hi : ([y].mapM (slot N) >>= fun r => pure (i :: r) : Option (List Nat)) = some is := hi
        rw [List.mapM_cons] at hi
        cases q2 : slot N y with
        | none => rw [q2] at hi; cases hi
        | some j =>
          rw [q2] at hi
          have hi : some [i, j] = some is := hi
          cases hi
          have hij : i ≠ j := fun e => by
            subst e
            have := slot_inj q1 q2
            subst this
            simp at hn
          refine (ps_par C.C.calm hN (by rw [C.C.hN]; exact slot_get q1) (by rw [C.C.hN]; exact slot_get q2) hij (by rw [hsc]; exact loc x (by simp)) (by rw [hsc]; exact loc y (by simp)) ha sw).imp fun D σ H w => ?_
          obtain ⟨F, μ, S, ρ, r0, s0, q⟩ := rdS_par w
          refine ⟨F, μ, S, ρ, r0, s0, q.imp fun ds F1 μ1 S1 H1 e1 r1 k1 vs hv => ?_⟩
          obtain ⟨l, F2, μ2, ds2, S2, ρ2, r2, s2, v2, fin⟩ := k1 vs hv
          match ds2, v2 with
          | [], v2 => rw [v2.nilI] at l; cases l
          | [d1], v2 => obtain ⟨v, rfl, _⟩ := v2.one; cases l
          | [d1, d2], v2 =>
            obtain ⟨v, u, rfl, w1, w2⟩ := v2.two
            exact ⟨v, u, rfl, fin _ ((s2.set w1 i).set w2 j)⟩
          | d1 :: d2 :: d3 :: dr, v2 =>
            have := v2.length
            rw [l] at this
            simp at this
  | [x, y, z], [p1, p2, p3], _ =>
    subst e1
    rw [if_neg (by rw [dedups3 hn]; exact fun h => Bool.noConfusion (show false = true from h)), if_neg (by decide), if_neg (by decide)] at sw
    match vs, hv with
    | [a, b, d], _ =>
      rw [List.mapM_cons] at hi
      cases q1 : slot N x with
      | none => rw [q1] at hi; cases hi
      | some i =>
        rw [q1] at hi
        have hi : ([y, z].mapM (slot N) >>= fun r => pure (i :: r) : Option (List Nat)) = some is := hi
        rw [List.mapM_cons] at hi
        cases q2 : slot N y with
        | none => rw [q2] at hi; cases hi
        | some j =>
          rw [q2] at hi
          have hi : (([z].mapM (slot N) >>= fun r => pure (j :: r) : Option (List Nat)) >>= fun r => pure (i :: r)) = some is := hi
          rw [List.mapM_cons] at hi
          cases q3 : slot N z with
          | none => rw [q3] at hi; cases hi
          | some m =>
            rw [q3] at hi
            have hi : some [i, j, m] = some is := hi
            cases hi
            have ne : ∀ {x y : Str} {i j : Nat}, slot N x = some i → slot N y = some j → x ≠ y → i ≠ j := fun h1 h2 hne e => by
              subst e
              exact hne (slot_inj h1 h2)
            obtain ⟨⟨n1, n2⟩, n3⟩ : (x ≠ y ∧ x ≠ z) ∧ y ≠ z := by simpa using hn
            refine (ps_par3 C.C.calm hN (by rw [C.C.hN]; exact slot_get q1) (by rw [C.C.hN]; exact slot_get q2) (by rw [C.C.hN]; exact slot_get q3) (ne q1 q2 n1) (ne q1 q3 n2) (ne q2 q3 n3) (by rw [hsc]; exact loc x (by simp)) (by rw [hsc]; exact loc y (by simp)) (by rw [hsc]; exact loc z (by simp)) ha sw).imp fun D σ H w => ?_
            obtain ⟨F, μ, S, ρ, r0, s0, q⟩ := rdS_par w
            refine ⟨F, μ, S, ρ, r0, s0, q.imp fun ds F1 μ1 S1 H1 e1 r1 k1 vs hv => ?_⟩
            obtain ⟨l, F2, μ2, ds2, S2, ρ2, r2, s2, v2, fin⟩ := k1 vs hv
            match ds2, v2 with
            | [], v2 => rw [v2.nilI] at l; cases l
            | [d1], v2 => obtain ⟨v, rfl, _⟩ := v2.one; cases l
            | [d1, d2], v2 => obtain ⟨v, u, rfl, _, _⟩ := v2.two; cases l
            | [d1, d2, d3], v2 =>
              obtain ⟨v, r, rfl, w1, v3⟩ := v2.consI
              obtain ⟨u, t, rfl, w2, w3⟩ := v3.two
              exact ⟨v, u, t, rfl, fin _ (((s2.set w1 i).set w2 j).set w3 m)⟩
            | d1 :: d2 :: d3 :: d4 :: dr, v2 =>
              have := v2.length
              rw [l] at this
              simp at this
end
end MI

/-! MI23: statements, the induction. -/
namespace MI
open PySem PySem.Spec PyProof.Rows L2
section
variable (G : GE) (c : Call) (k n : Nat)
structure SndS : Prop where
  S : ∀ (sc : Scope) (N : List Str) (W : XK) (X : Cx) (s : Stmt) (f : MS), SCtx G c W k sc N X → cS G n sc N s = some f → PS X s (rdS X.K W c f)
  B : ∀ (sc : Scope) (N : List Str) (W : XK) (X : Cx) (ss : List Stmt) (f : MS), SCtx G c W k sc N X → cB G n sc N ss = some f → PSs X ss (rdS X.K W c f)
end
section
variable {G : GE} {c : Call} {k n : Nat} {sc : Scope} {N : List Str} {W : XK} {X : Cx}
theorem sAsgP (C : SCtx G c W k sc N X) {t e : Expr} {p : Pos} {f : ME} {g : MG} (e1 : cE G 200 sc N e = some f) (e2 : cG G 200 sc N t = some g) (h1 : swapsWithSole [t] e p.line X.env = pure false) (h2 : swappedStores [t] e X.env = pure none) :
    PS X (.Assign [t] e p) (rdS X.K W c (sAsg f g)) := by
  have ih := snd G c k 200
  obtain ⟨a, b⟩ := ih.Gt sc N W X t g (tsl N 200 t) C.C (tgOk_fun C.fn 200 t) (slIn_tsl N 200 t) e2
  exact (ps_asg (ih.E sc N W X e f C.C e1) a h1 h2 (by rw [(asg_cons X.env b).1]; rfl)).imp fun D σ H w => rdS_asg w
theorem tup_asg (C : SCtx G c W k sc N X) {ts vs : List Expr} {tk vk : Nat} {tp vp p : Pos} {f : MS} (h : ((cE G 200 sc N (.Tuple vs vk vp)).bind fun f => (cG G 200 sc N (.Tuple ts tk tp)).map fun g => sAsg f g) = some f) (h2 : swappedStores [.Tuple ts tk tp] (.Tuple vs vk vp) X.env = pure none) :
    PS X (.Assign [.Tuple ts tk tp] (.Tuple vs vk vp) p) (rdS X.K W c f) := by
  obtain ⟨f1, e1, h⟩ := obind h
  obtain ⟨g1, e2, rfl⟩ := omap h
  exact sAsgP C e1 e2 rfl h2
theorem lc_shape {t e : Expr} (h : (match t, e with
        | .Name _ _, .ListComp _ _ _ _ => true
        | .Subscript _ _ _, .ListComp _ _ _ _ => true
        | _, _ => false) = true) : (∃ x px elt gs s lp, t = .Name x px ∧ e = .ListComp elt gs s lp) ∨ ∃ o i q elt gs s lp, t = .Subscript o i q ∧ e = .ListComp elt gs s lp := by
  cases t <;> cases e <;> first | (cases h; done) | exact .inl ⟨_, _, _, _, _, _, rfl, rfl⟩ | exact .inr ⟨_, _, _, _, _, _, _, rfl, rfl⟩
theorem cG_name {n : Nat} {x : Str} {p : Pos} {g : MG} (h : cG G n sc N (.Name x p) = some g) : ∃ i, slot N x = some i ∧ g = gName i := by
  cases n with
  | zero => unfold cG at h; cases h
  | succ n =>
    unfold cG at h
    dsimp only at h
    split at h
    · obtain ⟨i, ei, rfl⟩ := omap h
      exact ⟨i, ei, rfl⟩
    · cases h
theorem cE_lc {n : Nat} {elt : Expr} {gs : List Comprehension} {s : Scope} {p : Pos} {f : ME} (h : cE G (n + 1) sc N (.ListComp elt gs s p) = some f) : ∃ f0, cL G n sc N (.ListComp elt gs s p) = some f0 ∧ f = if G.isMu p = true then eMu f0 else eFz f0 := by
  unfold cE at h
  dsimp only at h
  obtain ⟨f0, e, rfl⟩ := omap h
  exact ⟨f0, e, rfl⟩
theorem stS (ih : SndS G c k n) (s : Stmt) (f : MS) (C : SCtx G c W k sc N X) (h : cS G (n + 1) sc N s = some f) : PS X s (rdS X.K W c f) := by
  have ie := snd G c k 200
  unfold cS at h
  split at h
  · cases h
    exact ps_retN.imp fun D σ H ⟨F, μ, S, ρ, r0, s0, p⟩ => p.at r0 .non rep_non
  · obtain ⟨g, e1, rfl⟩ := omap h
    exact (ps_ret (ie.E sc N W X _ g C.C e1)).imp fun D σ H w => rdS_ret w
  · cases h
    exact ps_doc.imp fun D σ H ⟨F, μ, S, ρ, r0, s0, p⟩ => p.at r0 σ s0
  · rename_i e p _
    split at h
    · rename_i hn
      obtain ⟨g, e1, rfl⟩ := omap h
      exact (ps_expr (ie.E sc N W X _ g C.C e1) (swaps_no hn none _ X.env)).imp fun D σ H w => rdS_drop w
    · cases h
  · rename_i ts tk tp vs vk vp p
    split at h
    · rename_i hl
      rw [Bool.and_eq_true] at hl
      have hl1 : ts.length = 2 ∨ ts.length = 3 := of_decide_eq_true hl.1
      have hl2 : vs.length = ts.length := of_decide_eq_true hl.2
      have hsc : X.env.scope = sc := C.C.scp
      split at h
      · rename_i xs hx
        split at h
        · rename_i hn
          rw [Bool.and_eq_true] at hn
          have hn1 : xs.Nodup := of_decide_eq_true hn.1
          split at h
          · rename_i hf
            refine tup_asg C h ?_
            rw [swap_eq ts vs tk vk tp vp X.env (by rw [hsc]; exact C.kind) hl1 hl2 hn.2, hf]
            split <;> rfl
          · rename_i hf
            split at h
            · cases h
            · rename_i hc
              obtain ⟨is, e1, h⟩ := obind h
              obtain ⟨g, e2, rfl⟩ := omap h
              exact sPar2 C hl1 hl2 hx hn1 hn.2 hf hc e1 (ie.A sc N W X vs g C.C e2).1
        · cases h
      · rename_i hx
        split at h
        · rename_i hs
          refine tup_asg C h ?_
          rw [swap_eq ts vs tk vk tp vp X.env (by rw [hsc]; exact C.kind) hl1 hl2 hs]
          have hlt := filt_none X.env ((ts.head?.map (·.pos.line)).getD 0) (ts := ts) (by rw [hsc]; exact hx)
          rw [if_pos]
          rw [Bool.or_eq_true]
          exact .inl (by rw [bne_iff_ne]; omega)
        · cases h
    · split at h
      · rename_i hl
        rw [Bool.and_eq_true] at hl
        have hl1 : 3 < ts.length := of_decide_eq_true hl.1
        refine tup_asg C h ?_
        unfold swappedStores
        have e : (!(ts.length == 2 || ts.length == 3) || vs.length != ts.length || X.env.blockKind != .function) = true := by
          have a : (ts.length == 2) = false := by simp; omega
          have b : (ts.length == 3) = false := by simp; omega
          rw [a, b]; rfl
        simp only [e, if_true]
      · cases h
  · rename_i t e p hno
    split at h
    · rename_i hb
      obtain ⟨f1, e1, h⟩ := obind h
      obtain ⟨g1, e2, rfl⟩ := omap h
      have hst : swappedStores [t] e X.env = pure none := stores_no (by
        cases t <;> cases e <;> first | rfl | exact (hno _ _ _ _ _ _ rfl rfl).elim | (unfold cG at e2; cases e2)) X.env
      rw [Bool.or_eq_true] at hb
      by_cases hb1 : notComp e = true
      · exact sAsgP C e1 e2 (swaps_no hb1 _ _ X.env) hst
      · have hb := hb.resolve_left hb1
        rcases lc_shape hb with ⟨x, px, elt, gs, s, lp, rfl, rfl⟩ | ⟨o, i, q, elt, gs, s, lp, rfl, rfl⟩
        · cases hq : swB sc x px s lp with
          | false =>
            refine sAsgP C e1 e2 ?_ hst
            unfold swapsWithSole
            dsimp only
            rw [swaps_name _ X.env (by rw [C.C.scp]; exact C.kind), C.C.scp, hq]
          | true =>
            obtain ⟨i, ei, rfl⟩ := cG_name e2
            obtain ⟨f0, e3, rfl⟩ := cE_lc e1
            refine (sSetL C ei hq e3).imp fun D σ H w => ?_
            have w := rdS_asg (vs := [i]) w
            have w : rdE X.K W c (if G.isMu lp = true then eMu f0 else eFz f0) σ H (fun y H1 => rdG X.K W c [i] (gName i) y σ H1 D.nx) := w
            have w2 : rdL X.K W c f0 σ H (fun y H1 => rdG X.K W c [i] (gName i) y σ H1 D.nx) := by
              split at w
              · exact rd_mu w
              · exact rd_fz w
            obtain ⟨F, μ, S, ρ, r0, s0, p⟩ := w2
            exact ⟨F, μ, S, ρ, r0, s0, p.imp fun ds F1 μ1 S1 H1 e1 r1 k1 q vs h1 h2 h3 h4 h5 => rdG_name (by simp) (k1 q vs h1 h2 h3 h4 h5)⟩
        · exact sAsgP C e1 e2 rfl hst
    · cases h
  · obtain ⟨t, e1, h⟩ := obind h
    obtain ⟨a, e2, h⟩ := obind h
    obtain ⟨b, e3, rfl⟩ := omap h
    exact (ps_if (ie.T sc N W X _ t C.C e1) (ih.B sc N W X _ a C e2) (ih.B sc N W X _ b C e3)).imp fun D σ H w => rdS_if w
  · rename_i t i b p
    split at h
    · rename_i hb
      rw [Bool.and_eq_true] at hb
      obtain ⟨z, e1, h⟩ := obind h
      obtain ⟨g, e2, h⟩ := obind h
      obtain ⟨fb, e3, rfl⟩ := omap h
      exact (ps_for C.po C.C.calm (ie.I sc N W X t i z C.C hb.2 e1) (ie.Gt sc N W X t g (tsl N 200 t) C.C (tgOk_fun C.fn 200 t) (slIn_tsl N 200 t) e2).1 (ih.B sc N W X b fb C e3) (fun x => folded_no hb.1 X.env x)).imp fun D σ H w => rdS_for w
    · cases h
  · obtain ⟨t, e1, h⟩ := obind h
    obtain ⟨b, e2, rfl⟩ := omap h
    exact (ps_while C.po (ie.T sc N W X _ t C.C e1) (ih.B sc N W X _ b C e2)).imp fun D σ H w => rdS_while w
  · cases h
    exact ps_break.imp fun D σ H ⟨F, μ, S, ρ, r0, s0, p⟩ => p.at r0 σ s0
  · cases h
    exact ps_continue.imp fun D σ H ⟨F, μ, S, ρ, r0, s0, p⟩ => p.at r0 σ s0
  · cases h
    exact ps_pass.imp fun D σ H ⟨F, μ, S, ρ, r0, s0, p⟩ => p.at r0 σ s0
  · cases h
    exact ps_never.imp fun D σ H ⟨F, μ, S, ρ, r0, s0, p⟩ => p.elim
  · cases h
theorem stB (ih : SndS G c k n) (ss : List Stmt) (f : MS) (C : SCtx G c W k sc N X) (h : cB G (n + 1) sc N ss = some f) : PSs X ss (rdS X.K W c f) := by
  unfold cB at h
  split at h
  · cases h
    exact pss_nil.imp fun D σ H ⟨F, μ, S, ρ, r0, s0, p⟩ => p.at r0 σ s0
  · obtain ⟨f1, e1, h⟩ := obind h
    obtain ⟨f2, e2, rfl⟩ := omap h
    exact (pss_cons (ih.S sc N W X _ f1 C e1) (ih.B sc N W X _ f2 C e2)).imp fun D σ H w => rdS_seq w
end
theorem sndS (G : GE) (c : Call) (k : Nat) : ∀ n, SndS G c k n
  | 0 => ⟨fun sc N W X s f C h => (by unfold cS at h; cases h), fun sc N W X s f C h => (by unfold cB at h; cases h)⟩
  | n + 1 => ⟨fun sc N W X s f C h => stS (sndS G c k n) s f C h, fun sc N W X s f C h => stB (sndS G c k n) s f C h⟩
end MI

/-! MI24: defs. -/
namespace MI
open PySem PySem.Spec PyProof.Rows L2
section
variable {K : PySem.W.Frag} {F F' : Fz} {μ μ' : List Addr} {H H' : Hp} {S S' : Sto}
mutual
theorem Rep.pure (hF : ∀ a, F a → F' a) : ∀ {d : D} {v : V}, pureD d = true → Rep K F μ H d v → Rep K F' μ' H d v
  | .non, _, _, h => by unfold Rep at h ⊢; exact h
  | .bl _, _, _, h => by unfold Rep at h ⊢; exact h
  | .int _, _, _, h => by unfold Rep at h ⊢; exact h
  | .str _, _, _, h => by unfold Rep at h ⊢; exact h
  | .tup xs, _, p, h => by
    unfold pureD at p
    unfold Rep at h ⊢
    obtain ⟨a, vs, e1, t, r⟩ := h
    exact ⟨a, vs, e1, t.imp (fun t => ⟨hF a t.1, t.2⟩) id, Reps.pure hF p r⟩
  | .lst xs, _, p, h => by
    unfold pureD at p
    unfold Rep at h ⊢
    obtain ⟨a, vs, e1, f, t, r⟩ := h
    exact ⟨a, vs, e1, hF a f, t, Reps.pure hF p r⟩
  | .dct xs, _, p, h => by
    unfold pureD at p
    unfold Rep at h ⊢
    obtain ⟨a, vs, e1, f, t, r⟩ := h
    exact ⟨a, vs, e1, hF a f, t, RepK.pure hF p r⟩
  | .loc _, _, p, _ => by unfold pureD at p; cases p
  | .scr _, _, p, _ => by unfold pureD at p; cases p
theorem Reps.pure (hF : ∀ a, F a → F' a) : ∀ {ds : List D} {vs : List V}, pureL ds = true → Reps K F μ H ds vs → Reps K F' μ' H ds vs
  | [], _, _, h => by unfold Reps at h ⊢; exact h
  | d :: ds, _, p, h => by
    unfold pureL at p
    rw [Bool.and_eq_true] at p
    unfold Reps at h ⊢
    obtain ⟨v, r, e1, h1, h2⟩ := h
    exact ⟨v, r, e1, Rep.pure hF p.1 h1, Reps.pure hF p.2 h2⟩
theorem RepK.pure (hF : ∀ a, F a → F' a) : ∀ {ds : List (Key × D)} {vs : List (Key × V)}, pureK ds = true → RepK K F μ H ds vs → RepK K F' μ' H ds vs
  | [], _, _, h => by unfold RepK at h ⊢; exact h
  | (k, d) :: ds, _, p, h => by
    unfold pureK at p
    rw [Bool.and_eq_true] at p
    unfold RepK at h ⊢
    obtain ⟨v, r, e1, h1, h2⟩ := h
    exact ⟨v, r, e1, Rep.pure hF p.1 h1, RepK.pure hF p.2 h2⟩
end
theorem RepF.pure (hF : ∀ a, F a → F' a) : ∀ {ds : List (Str × D)} {vs : List (Str × V)}, pureF ds = true → RepF K F μ H ds vs → RepF K F' μ' H ds vs
  | [], _, _, h => by unfold RepF at h ⊢; exact h
  | (k, d) :: ds, _, p, h => by
    unfold pureF at p
    rw [Bool.and_eq_true] at p
    unfold RepF at h ⊢
    obtain ⟨v, r, e1, h1, h2⟩ := h
    exact ⟨v, r, e1, Rep.pure hF p.1 h1, RepF.pure hF p.2 h2⟩
theorem RepO.pure (hF : ∀ a, F a → F' a) : ∀ {o : MO} {h : HO}, RepO K F μ H o h → RepO K F' μ' H o h
  | .lst xs, _, ⟨p, vs, e1, r⟩ => ⟨p, vs, e1, Reps.pure hF p r⟩
  | .dct xs, _, ⟨p, vs, e1, r⟩ => ⟨p, vs, e1, RepK.pure hF p r⟩
  | .ins c fs, _, ⟨p, dx, vs, e1, r⟩ => ⟨p, dx, vs, e1, RepF.pure hF p r⟩
/-- what stands still behind a call -/
def fzF (F : Fz) (μ : List Addr) (base : Nat) : Fz := fun a => F a ∨ (a ∈ μ ∧ a ∉ μ.take base)
theorem fz_rl (R : Rl K F μ H S) {base : Nat} (hb : base ≤ S.length) : Rl K (fzF F μ base) (μ.take base) H (S.take base) := by
  refine ⟨fun a h => ?_, by rw [List.length_take, List.length_take, R.len], R.nd.sublist (List.take_sublist _ _), fun a h q => ?_, fun n o a h1 h2 => ?_⟩
  · rcases h with h | ⟨h, _⟩
    · exact R.fz a h
    · obtain ⟨_, _, _, _, _, e, _⟩ := R.mem h
      rw [e]; simp
  · rcases h with h | ⟨_, h⟩
    · exact R.nf a h (List.mem_of_mem_take q)
    · exact h q
  · have l1 : n < base := by
      have := (List.getElem?_eq_some_iff.mp h1).1
      rw [List.length_take] at this
      omega
    rw [List.getElem?_take_of_lt l1] at h1 h2
    obtain ⟨x, x1, x2⟩ := R.obj n o a h1 h2
    exact ⟨x, x1, x2.pure fun _ h => .inl h⟩
theorem fz_ext {F0 : Fz} {μ0 : List Addr} {H0 : Hp} (e : Ext F0 μ0 H0 F μ H) {base : Nat} (hb : μ0.length = base) : Ext F0 μ0 H0 (fzF F μ base) (μ.take base) H where
  pre := fun n a h => by
    have l := (List.getElem?_eq_some_iff.mp h).1
    rw [List.getElem?_take_of_lt (by omega)]
    exact e.pre n a h
  new := fun a h => e.new a (List.mem_of_mem_take h)
  frz := fun a h => .inl (e.frz a h)
  newF := fun a h => by
    rcases h with h | ⟨h, h2⟩
    · exact e.newF a h
    · rcases e.new a h with q | q
      · exfalso
        obtain ⟨n, hn⟩ := List.mem_iff_getElem?.mp q
        have l := (List.getElem?_eq_some_iff.mp hn).1
        exact h2 (List.mem_iff_getElem?.mpr ⟨n, by rw [List.getElem?_take_of_lt (by omega)]; exact e.pre n a hn⟩)
      · exact .inr q
  keep := e.keep
  there := e.there
  nf := e.nf
mutual
theorem fz_rep (R : Rl K F μ H S) {base : Nat} : ∀ {d d' : D} {v : V}, fzD S base d = some d' → Rep K F μ H d v → Rep K (fzF F μ base) (μ.take base) H d' v
  | .non, _, _, e, h => by unfold fzD at e; cases e; rw [h.nonI]; exact rep_non
  | .bl _, _, _, e, h => by unfold fzD at e; cases e; rw [h.blI]; exact rep_bl _
  | .int _, _, _, e, h => by unfold fzD at e; cases e; rw [h.intI]; exact rep_int _
  | .str _, _, _, e, h => by unfold fzD at e; cases e; rw [h.strI]; exact rep_str _
  | .tup xs, _, _, e, h => by
    unfold fzD at e
    obtain ⟨ys, e1, rfl⟩ := omap e
    unfold Rep at h ⊢
    obtain ⟨a, vs, e2, t, r⟩ := h
    exact ⟨a, vs, e2, t.imp (fun t => ⟨.inl t.1, t.2⟩) id, fz_reps R e1 r⟩
  | .lst xs, _, _, e, h => by
    unfold fzD at e
    obtain ⟨ys, e1, rfl⟩ := omap e
    unfold Rep at h ⊢
    obtain ⟨a, vs, e2, f, t, r⟩ := h
    exact ⟨a, vs, e2, .inl f, t, fz_reps R e1 r⟩
  | .dct xs, _, _, e, h => by
    unfold fzD at e
    split at e
    · rename_i p
      cases e
      exact Rep.pure (fun _ h => .inl h) (by unfold pureD; exact p) h
    · cases e
  | .scr ns, _, _, e, h => by
    unfold fzD at e
    cases e
    unfold Rep at h ⊢
    obtain ⟨a, e1, t⟩ := h
    exact ⟨a, e1, t.imp (fun t => ⟨.inl t.1, t.2⟩) id⟩
  | .loc n, _, _, e, h => by
    unfold fzD at e
    split at e
    · rename_i hl
      cases e
      unfold Rep at h ⊢
      obtain ⟨a, e1, h2⟩ := h
      exact ⟨a, e1, by rw [List.getElem?_take_of_lt hl]; exact h2⟩
    · rename_i hl
      split at e
      · rename_i xs hs
        cases e
        obtain ⟨a, e1, h2⟩ := h.locI
        obtain ⟨x, hx, p, vs, ex, rs⟩ := R.obj n _ a hs h2
        subst ex
        unfold Rep
        refine ⟨a, vs, e1, .inr ⟨List.mem_iff_getElem?.mpr ⟨n, h2⟩, fun q => ?_⟩, hx, Reps.pure (fun _ h => .inl h) p rs⟩
        obtain ⟨m, hm⟩ := List.mem_iff_getElem?.mp q
        have l1 := (List.getElem?_eq_some_iff.mp hm).1
        rw [List.length_take] at l1
        rw [List.getElem?_take_of_lt (by omega)] at hm
        obtain ⟨l2, e2⟩ := List.getElem?_eq_some_iff.mp hm
        obtain ⟨l3, e3⟩ := List.getElem?_eq_some_iff.mp h2
        have := (List.getElem_inj R.nd).mp (e2.trans e3.symm)
        omega
      · cases e
theorem fz_reps (R : Rl K F μ H S) {base : Nat} : ∀ {ds ds' : List D} {vs : List V}, fzL S base ds = some ds' → Reps K F μ H ds vs → Reps K (fzF F μ base) (μ.take base) H ds' vs
  | [], _, _, e, h => by unfold fzL at e; cases e; rw [h.nilI]; exact Reps.nil
  | d :: ds, _, _, e, h => by
    unfold fzL at e
    obtain ⟨y, e1, e⟩ := obind e
    obtain ⟨ys, e2, rfl⟩ := omap e
    obtain ⟨v, r, rfl, h1, h2⟩ := h.consI
    exact Reps.cons (fz_rep R e1 h1) (fz_reps R e2 h2)
end
end
/-- a body's end -/
theorem post_run {K : PySem.W.Frag} {F : Fz} {μ : List Addr} {H : Hp} {S : Sto} {f : Fn} {c : Call} {args : List D} {Q : VK} {E : XK} (hl : S.length = μ.length) (p : post K F μ H (runFn f c args S) (pv' K Q) E) :
    args.length = f.np ∧ post K F μ H (f.body c (startE f.ns args) S) (fun fl F' μ' _ H' => flow K { nx := fun _ H' => Q .non H', rt := Q } fl F' μ' H') E := by
  unfold runFn at p
  cases q : decide (args.length = f.np) with
  | false => rw [q] at p; exact p.elim
  | true =>
    rw [q] at p
    refine ⟨of_decide_eq_true q, ?_⟩
    have fin : ∀ d S', post K F μ H (finish f.fz S.length d S') (pv' K Q) E → ∀ F' μ' H', Ext F μ H F' μ' H' → Rl K F' μ' H' S' → ∀ v, Rep K F' μ' H' d v → Q v H' := fun d S' p F' μ' H' e r v hv => by
      unfold finish at p
      cases z : f.fz with
      | false => rw [z] at p; exact p.atE e r v hv
      | true =>
        rw [z] at p
        cases y : fzD S' S.length d with
        | none => rw [y] at p; exact p.elim
        | some d' =>
          rw [y] at p
          have hb : S.length ≤ S'.length := by
            rw [hl, ← r.len]
            have : ∀ n, n < μ.length → n < μ'.length := fun n hn => (List.getElem?_eq_some_iff.mp (e.pre n μ[n] (List.getElem?_eq_getElem hn))).1
            cases h0 : μ.length with
            | zero => omega
            | succ m => have := this m (by omega); omega
          exact p.atE (fz_ext e hl.symm) (fz_rl r hb) v (fz_rep r y hv)
    cases y : f.body c (startE f.ns args) S with
    | bad => rw [y] at p; exact p.elim
    | exc x S' => rw [y] at p; exact p.elim
    | ok fl S' =>
      rw [y] at p
      intro F' μ' H' e r
      cases fl with
      | nx ρ => exact fun σ s => fin .non S' p F' μ' H' e r .non rep_non
      | rt d => exact fun v hv => fin d S' p F' μ' H' e r v hv
      | bk ρ => exact p.elim
      | ct ρ => exact p.elim
theorem slR_start {K : PySem.W.Frag} {F : Fz} {μ : List Addr} {H : Hp} {args : List D} {vs : List V} {N : List Str} (r : Reps K F μ H args vs) : SlR K F μ H (startE N.length args) (L2.start N vs) := by
  unfold startE L2.start
  have hl := r.length
  refine ⟨by simp [hl], fun i d h => ?_⟩
  by_cases hi : i < args.length
  · rw [List.getElem?_append_left (by simpa using hi), List.getElem?_map] at h
    cases e : args[i]? with
    | none => rw [e] at h; cases h
    | some a =>
      rw [e] at h
      cases h
      obtain ⟨v, e1, rv⟩ := r.get e
      refine ⟨v, ?_, rv⟩
      rw [List.getElem?_append_left (by simp; omega), List.getElem?_map, e1]; rfl
  · rw [List.getElem?_append_right (by simpa using Nat.le_of_not_lt hi)] at h
    rw [List.getElem?_replicate] at h
    split at h <;> cases h
end MI

/-! MI25: defs by their bodies; all defs of a module. -/
namespace MI
open PySem PySem.Spec PyProof.Rows L2
/-- a def, by its body, where nothing is being shown -/
theorem fn_G {CX : CXT} {P : Program} {w : World} {K : PySem.W.Frag} {mg : Str → Option Value} {base : Heap} {k : Nat} {f : Addr} {name qual : Str} {params : Arguments} {body : List Stmt} {scope : Scope} {dvs : List V} {kws : List (Str × V)} {fd : FuncData}
    {N ps : List Str} {sp : Sp} (F : FunD K name qual params body scope dvs kws f fd) (S : FnScope N ps scope) (len : ∀ vs H Q E, sp vs H Q E → vs.length = ps.length)
    (hbody : ∀ (cdv : Value) (A : Around) (outer : List PySem.Env) (s : Shared) (H : Hp) (vs : List V) (Q : VK) (E : XK), A.guards = some [] → Room k (A.deeper (envOfC qual scope s.heap.objs.size f cdv)) → A.frames = some outer → Mod K mg base → sp vs H Q E →
      ∃ t, PSs (cxOf CX P w K mg base N qual scope f cdv A outer s H E) body t ∧ t { nx := fun _ H' => Q .non H', rt := Q } (L2.start N vs) H) :
    FnG P w K mg base CX (k + 1) f fd ps sp := by
  obtain ⟨oc, od, dV, kV, doc, pm, an, cdv, ct, osl, rfl, lk, hcd, _, _⟩ := F.ex
  refine ⟨len, fun A outer s H args us vs Q E hgd hr e0 hb r hsp => ?_⟩
  have hl := len _ _ _ _ hsp
  have KX : K.In s.heap := e0.mod.kin.keeps fun b o e => (e0.bs b o e).1
  have lim : s.heap.NoLimit := e0.mod.nolimit.keeps fun b o e => (e0.bs b o e).1
  have hkind : ∀ y ∈ ps.zip us, scope.names.lookup y.1 = some .local ∨ (scope.names.lookup y.1 = some .cell ∧ ((cellsFrom (s.heap.objs.size + 1) scope.names []).lookup y.1).isSome = true) := fun ⟨n, v⟩ hy => by
    rcases S.par n (List.of_mem_zip hy).1 with q | q
    · exact .inl q
    · exact .inr ⟨q, PySem.W.cellsFrom_some _ _ _ (.inl q)⟩
  refine codeAny_call_function hr.depth (KX _ _ lk) rfl S.co S.gen rfl (PySem.W.codeRec_of KX hcd) (hb _ _ _ _ ?_)
  refine wpAny_newFunctionEnv_cells S.kind hkind fun env he s1 x => ?_
  subst he
  refine ⟨lim.keeps x.toInCall.keep, codeAny_func ?_⟩
  obtain ⟨t, ht, hq⟩ := hbody cdv A outer s H vs Q E hgd (hr.deeper _) e0.frames e0.mod hsp
  have I : Inv (cxOf CX P w K mg base N qual scope f cdv A outer s H E) [] (L2.start N vs) H s1 := inv_start S hr.hd e0 hl r x
  refine wpAny_mono (ht.run [] s1 (L2.start N vs) H _ I hq) (fun fl s' hs => ?_) fun e s' hs => hs
  cases fl with
  | ret u =>
    obtain ⟨v, σ', H', J, rv, q⟩ := hs
    exact ⟨v, H', J.os, J.bare, J.base, J.hok, rv, q⟩
  | next =>
    obtain ⟨σ', H', J, q⟩ := hs
    exact ⟨V.non, H', J.os, J.bare, J.base, J.hok, rfl, q⟩
  | brk =>
    obtain ⟨_, _, _, q⟩ := hs
    exact False.elim q
  | cont =>
    obtain ⟨_, _, _, q⟩ := hs
    exact False.elim q
/-! ### all defs -/
/-- a def of the module: its text -/
structure FnT where
  name : Str
  qual : Str
  params : Arguments
  body : List Stmt
  scope : Scope
  N : List Str
  ps : List Str
  F : Fn
/-- what a def's text must be -/
structure FnT.Ok (G : GE) (T : FnT) : Prop where
  S : FnScope T.N T.ps T.scope
  np : T.F.np = T.ps.length
  ns : T.F.ns = T.N.length
  c : (cB G 200 T.scope T.N T.body) = some T.F.body
theorem FnT.ok_of {G : GE} {T : FnT} {np : Nat} {fz : Bool} (S : FnScope T.N T.ps T.scope) (h : cF G T.N np fz T.scope T.body = some T.F) (hp : np = T.ps.length) : FnT.Ok G T := by
  unfold cF at h
  split at h
  · obtain ⟨b, e, h⟩ := omap h
    have g := h
    have g1 := congrArg Fn.np g
    have g2 := congrArg Fn.ns g
    have g3 := congrArg Fn.body g
    dsimp only at g1 g2 g3
    exact ⟨S, g1.symm.trans hp, g2.symm, e.trans (congrArg some g3)⟩
  · cases h
/-- the module: its defs, constants, built-ins as the heap has them -/
structure ModOk (G : GE) (Ts : List FnT) (K : PySem.W.Frag) (mg : Str → Option Value) : Prop where
  len : G.fns = Ts.map fun T => (T.name, T.ps)
  fn : ∀ (i : Nat) (T : FnT), Ts[i]? = some T → T.Ok G ∧ ∃ f fd, mg T.name = some (.ref f) ∧ FunD K T.name T.qual T.params T.body T.scope [] [] f fd ∧ Binds K fd T.ps [] ∧ ∀ (m : Nat) (ks : List Str) (pm : List Nat), (i, m, ks) ∈ G.kws → kwPerm T.ps m ks = some pm → KB K fd T.ps m ks pm
  cst : ∀ (x : Str) (d : D), G.cst.lookup x = some d → ∃ u v, mg x = some u ∧ RelV v u ∧ ∀ F μ H, Rep K F μ H d v
  blt : ∀ x : Str, x ∈ G.blt → x ≠ "gcd" → mg x = none
  gcd : ("gcd" : Str) ∈ G.blt → mg "gcd" = some (.builtin "math.gcd")
theorem all_fns {G : GE} {Ts : List FnT} {P : Program} {w : World} {K : PySem.W.Frag} {mg : Str → Option Value} {base : Heap} (M : ModOk G Ts K mg) : ∀ (k i : Nat) (T : FnT) (f : Addr) (fd : FuncData), Ts[i]? = some T → mg T.name = some (.ref f) → FunD K T.name T.qual T.params T.body T.scope [] [] f fd →
    FnG P w K mg base (CX P w) k f fd T.ps (spF K (callF (Ts.map FnT.F) k) i T.ps.length)
  | 0, i, T, f, fd, hi, hm, hF => by
    refine ⟨fun vs H Q E ⟨F, μ, S, args, r0, rs, l, p⟩ => by rw [rs.length]; exact l, fun A outer s H args us vs Q E hgd hr e0 hb r ⟨F, μ, S, as, r0, rs, l, p⟩ => ?_⟩
    exact p.elim
  | k + 1, i, T, f, fd, hi, hm, hF => by
    have ih := all_fns (P := P) (w := w) (base := base) M k
    obtain ⟨ok, _⟩ := M.fn i T hi
    refine fn_G hF ok.S (fun vs H Q E ⟨F, μ, S, args, r0, rs, l, p⟩ => by rw [rs.length]; exact l) fun cdv A outer s H vs Q E hgd hr hfr hmod ⟨F, μ, S, as, r0, rs, l, p⟩ => ?_
    have hfn : callF (Ts.map FnT.F) (k + 1) i as = runFn T.F (callF (Ts.map FnT.F) k) as := by
      show (match (Ts.map FnT.F)[i]? with | some f => runFn f (callF (Ts.map FnT.F) k) as | none => bad) = _
      rw [List.getElem?_map, hi]
      rfl
    rw [hfn] at p
    obtain ⟨l2, p⟩ := post_run r0.len.symm p
    refine ⟨rdS K E (callF (Ts.map FnT.F) k) T.F.body, ?_, F, μ, S, startE T.F.ns as, r0, ?_, p⟩
    · have hX : SCtx G (callF (Ts.map FnT.F) k) E k T.scope T.N (cxOf (CX P w) P w K mg base T.N T.qual T.scope f cdv A outer s H E) := by
        refine ⟨⟨rfl, ok.S.nd, rfl, rfl, hgd, hr, ?_, ?_, ?_, M.cst, M.blt, M.gcd⟩, fun _ => rfl, ?_, ok.S.kind⟩
        · exact passes_call (takes_of (E := E) rfl rfl rfl rfl) fun _ _ _ _ h => h
        · intro j x ps hj
          rw [M.len, List.getElem?_map] at hj
          cases q : Ts[j]? with
          | none => rw [q] at hj; cases hj
          | some T2 =>
            rw [q] at hj
            have hj : some (T2.name, T2.ps) = some (x, ps) := hj
            cases hj
            obtain ⟨_, f2, fd2, h1, h2, h3, h4⟩ := M.fn j T2 q
            exact ⟨f2, fd2, h1, h2.kp, ih j T2 f2 fd2 q h1 h2, h3, h4⟩
        · intro j x ps hj as S hne
          rw [M.len, List.getElem?_map] at hj
          cases q : Ts[j]? with
          | none => rw [q] at hj; cases hj
          | some T2 =>
            rw [q] at hj
            have hj : some (T2.name, T2.ps) = some (x, ps) := hj
            cases hj
            cases k with
            | zero => rfl
            | succ k =>
              show (match (Ts.map FnT.F)[j]? with | some f => runFn f (callF (Ts.map FnT.F) k) as | none => bad) S = _
              rw [List.getElem?_map, q]
              show runFn T2.F (callF (Ts.map FnT.F) k) as S = _
              unfold runFn
              rw [decide_eq_false (by rw [(M.fn j T2 q).1.np]; exact hne)]
        · exact passes_of rfl
      exact (sndS G (callF (Ts.map FnT.F) k) k 200).B T.scope T.N E _ T.body T.F.body hX ok.c
    · rw [ok.ns]
      exact slR_start rs
end MI

/-! MI26: the law's end. -/
namespace MI
open PySem PySem.Spec PyProof.Rows L2
/-! ### constants -/
mutual
def cstB (K : PySem.W.Frag) : D → Value → Bool
  | .non, .none => true
  | .bl b, .bool c => b == c
  | .int i, .int j _ => decide (i = j)
  | .str x, .str y _ => decide (x = y)
  | .tup ds, .ref a => (match K.lookup a with
    | some ⟨.type T, _, .seq its _, _⟩ => decide (T = "tuple") && (decide (its.size ≤ sizeLine) && cstsB K ds its.toList)
    | _ => false)
  | _, _ => false
def cstsB (K : PySem.W.Frag) : List D → List Value → Bool
  | [], [] => true
  | d :: ds, u :: us => cstB K d u && cstsB K ds us
  | _, _ => false
end
mutual
theorem cstB_ok {K : PySem.W.Frag} : ∀ {d : D} {u : Value}, cstB K d u = true → ∃ v, RelV v u ∧ ∀ F μ H, Rep K F μ H d v
  | .non, u, h => by
    cases u <;> first | (unfold cstB at h; cases h; done) | exact ⟨.non, rfl, fun _ _ _ => rep_non⟩
  | .bl b, u, h => by
    cases u <;> first | (unfold cstB at h; cases h; done) | skip
    rename_i c
    unfold cstB at h
    have e : b = c := eq_of_beq h
    subst e
    exact ⟨.bl b, rfl, fun _ _ _ => rep_bl b⟩
  | .int i, u, h => by
    cases u <;> first | (unfold cstB at h; cases h; done) | skip
    rename_i j t
    unfold cstB at h
    have e : i = j := of_decide_eq_true h
    subst e
    exact ⟨.int i, ⟨t, rfl⟩, fun _ _ _ => rep_int i⟩
  | .str x, u, h => by
    cases u <;> first | (unfold cstB at h; cases h; done) | skip
    rename_i y t
    unfold cstB at h
    have e : x = y := of_decide_eq_true h
    subst e
    exact ⟨.str x, ⟨t, rfl⟩, fun _ _ _ => rep_str x⟩
  | .tup ds, u, h => by
    cases u <;> first | (unfold cstB at h; cases h; done) | skip
    rename_i a
    unfold cstB at h
    split at h
    · rename_i T od its nn sl q
      rw [Bool.and_eq_true, Bool.and_eq_true] at h
      obtain ⟨h1, h2, h3⟩ := h
      have h1 : T = "tuple" := of_decide_eq_true h1
      subst h1
      obtain ⟨vs, r1, r2⟩ := cstsB_ok h3
      refine ⟨.ref a, rfl, fun F μ H => ?_⟩
      unfold Rep
      exact ⟨a, vs, rfl, .inr fun H' => .inr ⟨_, its, nn, q, rfl, rfl, of_decide_eq_true h2, r1⟩, r2 F μ H⟩
    · cases h
  | .lst _, u, h => by cases u <;> (unfold cstB at h; cases h)
  | .dct _, u, h => by cases u <;> (unfold cstB at h; cases h)
  | .loc _, u, h => by cases u <;> (unfold cstB at h; cases h)
  | .scr _, u, h => by cases u <;> (unfold cstB at h; cases h)
theorem cstsB_ok {K : PySem.W.Frag} : ∀ {ds : List D} {us : List Value}, cstsB K ds us = true → ∃ vs, Vals vs us ∧ ∀ F μ H, Reps K F μ H ds vs
  | [], [], _ => ⟨[], .nil, fun _ _ _ => Reps.nil⟩
  | [], _ :: _, h => by unfold cstsB at h; cases h
  | _ :: _, [], h => by unfold cstsB at h; cases h
  | d :: ds, u :: us, h => by
    unfold cstsB at h
    rw [Bool.and_eq_true] at h
    obtain ⟨v, a, b⟩ := cstB_ok h.1
    obtain ⟨vs, a2, b2⟩ := cstsB_ok h.2
    exact ⟨v :: vs, .cons a a2, fun F μ H => Reps.cons (b F μ H) (b2 F μ H)⟩
end
/-- the constants, gcd -/
def exB (cst : List (Str × D)) (gcd : Bool) (K : PySem.W.Frag) : Bool := (cst.all fun q => match PySem.W.nsIn K mainGlobals q.1 with
    | some (some u) => cstB K q.2 u
    | _ => false) && (!gcd || (match PySem.W.nsIn K mainGlobals "gcd" with
    | some (some (.builtin x)) => decide (x = "math.gcd")
    | _ => false))
theorem lookup_mem {α β : Type} [BEq α] [LawfulBEq α] {x : α} {d : β} : ∀ {l : List (α × β)}, l.lookup x = some d → (x, d) ∈ l
  | [], h => by cases h
  | (y, e) :: l, h => by
    rw [List.lookup_cons] at h
    split at h
    · rename_i q
      cases h
      rw [eq_of_beq q]; simp
    · exact List.mem_cons_of_mem _ (lookup_mem h)
theorem exB_cst {cst : List (Str × D)} {g : Bool} {K : PySem.W.Frag} {h : Heap} {mg : Str → Option Value} (X : K.In h) (G : h.Ns mainGlobals mg) (e : exB cst g K = true) {x : Str} {d : D} (hx : cst.lookup x = some d) : ∃ u v, mg x = some u ∧ RelV v u ∧ ∀ F μ H, Rep K F μ H d v := by
  unfold exB at e
  rw [Bool.and_eq_true] at e
  have e1 := List.all_eq_true.mp e.1 (x, d) (lookup_mem hx)
  dsimp only at e1
  split at e1
  · rename_i u q
    obtain ⟨v, a, b⟩ := cstB_ok e1
    exact ⟨u, v, PySem.W.mg_of X G q, a, b⟩
  · cases e1
theorem exB_gcd {cst : List (Str × D)} {K : PySem.W.Frag} {h : Heap} {mg : Str → Option Value} (X : K.In h) (G : h.Ns mainGlobals mg) (e : exB cst true K = true) : mg "gcd" = some (.builtin "math.gcd") := by
  unfold exB at e
  rw [Bool.and_eq_true, Bool.not_true, Bool.false_or] at e
  have e1 := e.2
  split at e1
  · rename_i x q
    have e2 : x = "math.gcd" := of_decide_eq_true e1
    subst e2
    exact PySem.W.mg_of X G q
  · cases e1
/-! ### the hook -/
def obsC (n : Nat) (fa : List He.Fa) (fn : List He.DefD) (ex : PySem.W.Frag → Bool) (g : Addr → Option Obj) : He.AlD × Bool := (fun K => (He.obsD fa fn K, ex K)) (He.frG g (He.asD g n))
def hookC (n : Nat) (fa : List He.Fa) (fn : List He.DefD) (ex : PySem.W.Frag → Bool) : PySem.W.Hook where
  α := He.AlD × Bool
  obs := fun s => obsC n fa fn ex s.heap.get?
  val := fun _ => (He.valD fn, true)
  says := fun _ h => ∃ K : PySem.W.Frag, K.In h ∧ He.SaysD fa fn K ∧ ex K = true
  of := fun _ _ e => ⟨_, He.frG_in, congrArg Prod.fst e, congrArg Prod.snd e⟩
  keeps := fun _ _ _ ⟨K, hK, c⟩ k => ⟨K, PySem.W.Frag.In.keeps hK k, c⟩
theorem obsC_eq {n : Nat} {fa : List He.Fa} {fn : List He.DefD} {ex : PySem.W.Frag → Bool} {g : Addr → Option Obj} {s : Shared} (h : ∀ a, g a = s.heap.get? a) : obsC n fa fn ex g = (hookC n fa fn ex).obs s := by
  have e : g = s.heap.get? := funext h
  rw [e] <;> rfl
end MI

/-! MI27: the law's end. -/
namespace MI
open PySem PySem.Spec PyProof.Rows L2
/-- the law's def, called behind the top -/
theorem law_callG {P : Program} {w : World} {K : PySem.W.Frag} {mg mb : Str → Option Value} {CX : CXT} {k : Nat} {fa a : Addr} {fd : FuncData} {x : Str} {sp : Sp} {s₁ : Shared} {vs : List Value} {ns : List Int}
    (KX : K.In s₁.heap) (hns : s₁.heap.Ns mainGlobals mg) (hb : s₁.heap.Ns builtinsNs mb) (hbb : ∀ x : Str, x ≠ "__name__" → mb x = bootBuiltins x) (hlim : s₁.heap.NoLimit) (hg : s₁.gens = #[])
    (ha : s₁.heap.get? a = some { cls := .type "list", data := .seq vs.toArray }) (hi : IntsAre vs ns) (hl : ns.length ≤ sizeLine) (hr : Room k callerA)
    (F : ∀ base : Heap, FnG P w K mg base CX k fa fd [x] sp) (hbind : BindsTo s₁ fd ⟨[.ref a], []⟩ [(x, .ref a)])
    (hsp : ∀ H : Hp, Only H → SqL K H a (ns.map V.int) → sp [.ref a] H (fun v _ => v = .bl true) fun _ _ _ => False)
    (hCX : ∀ H e s', CX [] H s₁ (fun _ _ _ => False) e s' → False) :
    codeAny (model P w) callerA (.call (.ref fa) ⟨[.ref a], []⟩) (fun r s' => r = .ok (.ret (.bool true)) ∧ OldK s₁.heap s'.heap ∧ s'.os = s₁.os ∧ AllBare s'.gens) s₁ := by
  have rv := vals_ints hi
  have lenV := hi.length
  have core : ∀ H : Hp, Only H → SqL K H a (ns.map V.int) → HOk P w H s₁.heap → (∀ b, H b ≠ none → b = a) → (H a ≠ none → K.lookup a = none) →
      codeAny (model P w) callerA (.call (.ref fa) ⟨[.ref a], []⟩) (fun r s' => r = .ok (.ret (.bool true)) ∧ OldK s₁.heap s'.heap ∧ s'.os = s₁.os ∧ AllBare s'.gens) s₁ := by
    intro H hO hS hok hA hK
    have at_ : ∀ {b : Addr} {o : Obj}, s₁.heap.get? b = some o → H b = none → (hidT s₁.heap H).get? b = some o := fun e n => hidT_get e n
    have off : ∀ {b : Addr}, b ≠ a → H b = none := fun {b} n => Classical.byContradiction fun q => n (hA b q)
    have dictA : ∀ {b : Addr} {o : Obj} {es : Array DictEntry} {ep : Nat}, s₁.heap.get? b = some o → o.data = .dict es ep → H b = none := fun {b o es ep} e d => off fun q => by
      subst q
      rw [ha] at e
      cases e
      cases (show Data.seq vs.toArray _ = Data.dict es ep from d)
    have nsK : ∀ {b : Addr} {m : Str → Option Value}, s₁.heap.Ns b m → (hidT s₁.heap H).Ns b m := fun {b m} ⟨o, es, ep, e, d, r⟩ => ⟨o, es, ep, at_ e (dictA e d), d, r⟩
    have hKb : K.In (hidT s₁.heap H) := fun b o e => at_ (KX b o e) (Classical.byContradiction fun q => by
      have := hA b q
      subst this
      rw [hK q] at e
      cases e)
    have hM : Mod K mg (hidT s₁.heap H) := ⟨hKb, nsK hns, ⟨mb, nsK hb, hbb⟩, let ⟨mc, h1, h2⟩ := hlim; ⟨mc, nsK h1, h2⟩⟩
    have e0 : Env0 P w K mg (hidT s₁.heap H) callerA [] s₁ H := ⟨rfl, hM, fun b o e => of_hidT e, Nat.le_of_eq (hidT_size _ _), trivial, fun b hb => absurd (show b ∈ ([] : List Addr) from hb) (by simp), hok, .of_eq hg⟩
    refine codeAny_mono ((F _).run callerA [] s₁ H ⟨[.ref a], []⟩ [.ref a] [.ref a] _ _ rfl hr e0 hbind (.cons rfl .nil) (hsp H hO hS)) fun r s' h => ?_
    cases r with
    | error e => exact (hCX H e s' h).elim
    | ok fl =>
      cases fl with
      | next => exact False.elim h
      | brk => exact False.elim h
      | cont => exact False.elim h
      | ret u =>
        obtain ⟨v, H', os, bare, un, hok', r', q⟩ := h
        have q : v = .bl true := q
        subst q
        cases r'
        refine ⟨rfl, OldK.of_keep fun b o e => ?_, os, bare⟩
        rcases hO b with z | ⟨ob, xs, z⟩
        · exact un.keep b o e z (by intro z; exact absurd (show b ∈ ([] : List Addr) from z) (by simp)) (by simp)
        · obtain ⟨e1, _⟩ := hok b _ z
          obtain ⟨e2, _⟩ := hok' b _ (un.frzs b ob _ z)
          rw [e] at e1
          cases e1
          exact e2
  cases hk : K.lookup a with
  | some o =>
    have e := KX a o hk
    rw [ha] at e
    cases e
    exact core (fun _ => none) (fun _ => .inl rfl) (.inr ⟨_, vs.toArray, _, hk, rfl, rfl, rfl, by rw [List.size_toArray, lenV]; exact hl, by simpa using rv⟩) (fun b u z => by cases (show (none : Option HO) = some u from z)) (fun b z => absurd rfl z) fun z => absurd rfl z
  | none =>
    let H : Hp := fun b => if b = a then some (.frz { cls := .type "list", data := .seq vs.toArray } (.lst (ns.map V.int))) else none
    have h1 : H a = some (.frz { cls := .type "list", data := .seq vs.toArray } (.lst (ns.map V.int))) := if_pos rfl
    have h2 : ∀ b, b ≠ a → H b = none := fun b n => if_neg n
    refine core H (fun b => ?_) (.inl (.inr ⟨{ cls := .type "list", data := .seq vs.toArray }, h1⟩)) (fun b u z => ?_) (fun b z => Classical.byContradiction fun n => z (h2 b n)) fun _ => hk
    · by_cases hb : b = a
      · rw [hb]; exact .inr ⟨_, _, h1⟩
      · exact .inl (h2 b hb)
    · by_cases hb : b = a
      · subst hb
        rw [h1] at z
        cases z
        exact ⟨ha, by rw [List.length_map]; exact hl, vs, _, rv, ha⟩
      · rw [h2 b hb] at z
        cases z
/-- all of a module's facts -/
theorem mod_ok {G : GE} {Ts : List FnT} {fa : List He.Fa} {fn : List He.DefD} {gcd : Bool} {K : PySem.W.Frag} {h : Heap} {mg : Str → Option Value} (X : K.In h) (N : h.Ns mainGlobals mg) (c : He.SaysD fa fn K) (e : exB G.cst gcd K = true)
    (len : G.fns = Ts.map fun T => (T.name, T.ps)) (ok : ∀ T ∈ Ts, T.Ok G) (defs : ∀ T ∈ Ts, (⟨(T.name, none), T.name, T.qual, T.params, T.body, T.scope, [], []⟩ : He.DefD) ∈ fn) (glos : ∀ T ∈ Ts, He.Fa.glo T.name ∈ fa)
    (bnd : ∀ T ∈ Ts, ∀ (kV doc pm : Value) (an : Option Addr) (cdv ct : Value) (us : List Value), us.length = T.ps.length → bindArgs (PySem.W.fnOf T.name T.qual T.params T.body T.scope .none kV doc pm an cdv ct) ⟨us, []⟩ = pure (T.ps.zip us))
    (kbd : ∀ (i : Nat) (T : FnT), Ts[i]? = some T → ∀ (m : Nat) (ks : List Str) (pm : List Nat), (i, m, ks) ∈ G.kws → kwPerm T.ps m ks = some pm → ∀ (kV doc pm' : Value) (an : Option Addr) (cdv ct : Value) (us ws : List Value), us.length = m → ws.length = ks.length →
      bindArgs (PySem.W.fnOf T.name T.qual T.params T.body T.scope .none kV doc pm' an cdv ct) ⟨us, ks.zip ws⟩ = pure (T.ps.zip (permL pm (us ++ ws))))
    (blt : ∀ x ∈ G.blt, x ≠ "gcd" → He.Fa.free x ∈ fa) (hg : ("gcd" : Str) ∈ G.blt → gcd = true) : ModOk G Ts K mg := by
  refine ⟨len, fun i T hi => ?_, fun x d hx => exB_cst X N e hx, fun x hx hn => He.free_ok X N (c.facts (blt x hx hn)), fun hx => ?_⟩
  · have hm : T ∈ Ts := List.mem_of_getElem? hi
    obtain ⟨fd, F⟩ := c.defs (defs T hm)
    have F : FunD K T.name T.qual T.params T.body T.scope [] [] (He.ga K T.name) fd := F
    refine ⟨ok T hm, He.ga K T.name, fd, He.glo_ok X N (c.facts (glos T hm)), F, F.bindsN (bnd T hm), fun m ks pm h1 h2 s us ws _ l1 l2 => ?_⟩
    obtain ⟨oc, od, dV, kV, doc, pm', an, cdv, ct, osl, rfl, lk, hcd, hD, hK⟩ := F.ex
    rcases hD with ⟨_, rfl⟩ | ⟨e, _⟩
    · exact .of_eq (kbd i T hi m ks pm h1 h2 kV doc pm' an cdv ct us ws l1 l2)
    · exact absurd rfl e
  · have := hg hx
    subst this
    exact exB_gcd X N e
/-- the script as data -/
theorem sp_law {K : PySem.W.Frag} {c : Call} {i : Nat} {ns : List Int} {H : Hp} {a : Addr} (hO : Only H) (hS : SqL K H a (ns.map V.int)) {S' : Sto} (h : c i [.scr ns] [] = .ok (.bl true) S') : spF K c i 1 [.ref a] H (fun v _ => v = .bl true) fun _ _ _ => False := by
  refine ⟨fun b => H b ≠ none, [], [], [.scr ns], ⟨fun _ h => h, rfl, List.nodup_nil, fun _ _ q => (by cases q), fun n o b h1 h2 => (by cases h1)⟩, Reps.cons ?_ Reps.nil, rfl, ?_⟩
  · unfold Rep
    refine ⟨a, rfl, ?_⟩
    rcases hS with hS | hS
    · refine .inl ⟨fun q => ?_, hS⟩
      rcases hS with hS | ⟨o, hS⟩
      · rw [hS] at q; cases q
      · rw [hS] at q; cases q
    · exact .inr fun _ => .inr hS
  · rw [h]
    exact fun F' μ' H' _ _ v hv => hv.blI
/-- THE END -/
theorem walk_G {l : PySem.W.OpenLaw} {n k : Nat} {q : Program} {loose : List Str} {XP : (Str → Option Value) → Heap → Prop} {d : DefRec} {G : GE} {Ts : List FnT} {hn : Nat} {fa : List He.Fa} {fn : List He.DefD} {ex : PySem.W.Frag → Bool} {x : Str} {i : Nat} {T : FnT}
    (h1 : l.most = some n) (h2 : n ≤ sizeLine) (hdf : d.params.defaults = []) (hr : Room k callerA) (hi : Ts[i]? = some T) (hname : T.name = d.name) (hps : T.ps = [x])
    (M : ∀ (K : PySem.W.Frag) (h : Heap) (mg : Str → Option Value), K.In h → h.Ns mainGlobals mg → He.SaysD fa fn K → ex K = true → ModOk G Ts K mg)
    (main : ∀ ns : List Int, ns.length ≤ n → ∃ S', callF (Ts.map FnT.F) k i [.scr ns] [] = .ok (.bl true) S') :
    PySem.W.WalkO q loose XP (hookC hn fa fn ex).says l.row.toRowW d [] (fun f vs => PySem.call f vs) := by
  refine Att.attach_call h1 hdf fun w s₀ s₁ mg mb fa' o pm cd doc a vs ns Gr Y ho hd hcd hmg hobj hints hlen hg => ?_
  obtain ⟨K, KX, c, e⟩ := Y
  have MM := M K _ mg KX Gr.T.g c e
  obtain ⟨ok, f, fd, hf, F, hb, _⟩ := MM.fn i T hi
  have ef : f = fa' := by
    rw [hname, hmg] at hf
    cases hf; rfl
  subst ef
  have hbind : ∀ (s : Shared) (u : Value), K.In s.heap → BindsTo s fd ⟨[u], []⟩ [(x, u)] := fun s u hk => by
    have := hb s [u] hk (by rw [hps]; rfl)
    rw [hps] at this
    exact this
  refine law_callG (x := x) (fd := fd) (sp := spF K (callF (Ts.map FnT.F) k) i 1) (CX := CX l.prog w) KX Gr.T.g Gr.T.b Gr.T.builtins Gr.T.nolimit hg hobj hints (Nat.le_trans hlen h2) hr (fun base => ?_) (hbind s₁ (.ref a) KX) (fun H hO hS => ?_) fun H e s' h => ?_
  · have z := all_fns (P := l.prog) (w := w) (base := base) MM k i T f fd hi hf F
    rw [hps] at z
    exact z
  · obtain ⟨S', hS'⟩ := main ns hlen
    exact sp_law hO hS hS'
  · obtain ⟨_, _, _, _, _, _, _, _, _, _, _, _, z⟩ := h
    exact z
/-! ### a module, told by its defs -/
def fnOfT (Ts : List FnT) : List He.DefD := Ts.map fun T => ⟨(T.name, none), T.name, T.qual, T.params, T.body, T.scope, [], []⟩
def hasG (blt : List Str) : Bool := blt.any fun (x : Str) => decide (x = "gcd")
def faOfT (Ts : List FnT) (blt : List Str) : List He.Fa := (Ts.map fun T => .glo T.name) ++ (blt.filter fun (x : Str) => !decide (x = "gcd")).map .free
def BndT (T : FnT) : Prop := ∀ (kV doc pm : Value) (an : Option Addr) (cdv ct : Value) (us : List Value), us.length = T.ps.length → bindArgs (PySem.W.fnOf T.name T.qual T.params T.body T.scope .none kV doc pm an cdv ct) ⟨us, []⟩ = pure (T.ps.zip us)
def KbT (T : FnT) (m : Nat) (ks : List Str) (pm : List Nat) : Prop := ∀ (kV doc pm' : Value) (an : Option Addr) (cdv ct : Value) (us ws : List Value), us.length = m → ws.length = ks.length →
      bindArgs (PySem.W.fnOf T.name T.qual T.params T.body T.scope .none kV doc pm' an cdv ct) ⟨us, ks.zip ws⟩ = pure (T.ps.zip (permL pm (us ++ ws)))
theorem mod_okT {G : GE} {Ts : List FnT} {K : PySem.W.Frag} {h : Heap} {mg : Str → Option Value} (len : G.fns = Ts.map fun T => (T.name, T.ps)) (ok : ∀ T ∈ Ts, T.Ok G ∧ BndT T)
    (kbd : ∀ (i : Nat) (T : FnT), Ts[i]? = some T → ∀ (m : Nat) (ks : List Str) (pm : List Nat), (i, m, ks) ∈ G.kws → kwPerm T.ps m ks = some pm → KbT T m ks pm) (X : K.In h) (N : h.Ns mainGlobals mg)
    (c : He.SaysD (faOfT Ts G.blt) (fnOfT Ts) K) (e : exB G.cst (hasG G.blt) K = true) : ModOk G Ts K mg := by
  refine mod_ok X N c e len (fun T hT => (ok T hT).1) (fun T hT => List.mem_map.mpr ⟨T, hT, rfl⟩) (fun T hT => List.mem_append_left _ (List.mem_map.mpr ⟨T, hT, rfl⟩)) (fun T hT => (ok T hT).2) kbd (fun x hx hn => ?_) fun hx => ?_
  · refine List.mem_append_right _ (List.mem_map.mpr ⟨x, List.mem_filter.mpr ⟨hx, ?_⟩, rfl⟩)
    rw [decide_eq_false hn]; rfl
  · exact List.any_eq_true.mpr ⟨_, hx, decide_eq_true rfl⟩
end MI

namespace Lw
open PySem PySem.Spec PyProof.Rows L2 MI
def top (i : Nat) : Stmt := PySem.Challenge.pw_backwalks_k05_flows_and_chances_of_rows.main.body.getD i (.Pass ⟨0, 0, 0, 0⟩)
def fnsL : List (Str × List Str) := ([("is_whole", ["value"]), ("is_between", ["value", "low", "high"]), ("is_tuple_of", ["value", "many"]), ("is_ratio", ["value"]), ("is_row", ["value", "many"]), ("ratio", ["top", "low"]), ("plus", ["one", "two"]), ("minus", ["one", "two"]), ("times", ["one", "two"]), ("over", ["one", "two"]), ("total", ["fractions"]), ("scaled", ["row", "number"]), ("is_table", ["value"]), ("steps_from", ["table", "place"]), ("come_to", ["table", "place"]), ("is_whole_table", ["table"]), ("is_walk_by", ["value"]), ("turned", ["table"]), ("less_row", ["row", "lead", "by"]), ("answers_of", ["table", "rights"]), ("shares_by", ["walk"]), ("flows_by", ["walk"]), ("chance_along", ["walk", "places"]), ("seen_by", ["walk", "places"]), ("check_walk", ["value"])] : List (Str × List Str)) ++ ([("check_places", ["value", "many"]), ("flows_of", ["walk"]), ("seen_chance", ["walk", "places"]), ("_law_well", ["script", "salt"]), ("_law_pick", ["well", "limit"]), ("_law_of", ["well", "some"]), ("_law_frac", ["up", "down"]), ("_law_plus", ["here", "there"]), ("_law_times", ["here", "there"]), ("_law_over", ["here", "there"]), ("_law_total", ["parts"]), ("_law_over_sum", ["row"]), ("_law_ears", ["well", "many"]), ("_law_part", ["well"]), ("_law_walk", ["well", "many"]), ("_law_shares", ["going"]), ("_law_flows", ["going"]), ("_law_chance", ["going", "rest", "spots"]), ("_law_spots", ["well", "going"]), ("_law_right", ["well"]), ("law", ["script"])] : List (Str × List Str))
def G : GE := ⟨fnsL, ([("ZERO", .tup [.int 0, .int 1]), ("ONE", .tup [.int 1, .int 1]), ("MOST_PLACES", .int 6)] : List (Str × D)), (["len", "range", "isinstance", "all", "abs", "int", "repr", "sorted", "set", "divmod", "tuple", "list", "enumerate", "zip", "bool", "gcd"] : List (Str)), ([(74, 11), (80, 15), (85, 12), (123, 11), (154, 26), (154, 45), (154, 49), (159, 73), (166, 16), (172, 43), (182, 31), (190, 12), (204, 12)] : List (Nat × Nat)), ([(26, 0, ["walk"]), (27, 0, ["places", "walk"])] : List (Nat × Nat × List Str))⟩
abbrev N_is_whole : List Str := ["value"]
def F_is_whole : Fn := ⟨1, 1, true, (sSeq (sRet (eAnd (eIsi (eVar 0) .int) (eNot (eIsi (eVar 0) .bool)))) sNext)⟩
def T_is_whole : FnT := ⟨"is_whole", "is_whole", defArgs (top 6), defBody (top 6), defScope (top 6), N_is_whole, ["value"], F_is_whole⟩
theorem c_is_whole : cF G N_is_whole 1 true (defScope (top 6)) (defBody (top 6)) = some F_is_whole := by kernel_rfl
theorem o_is_whole : T_is_whole.Ok G ∧ BndT T_is_whole := ⟨FnT.ok_of (T := T_is_whole) ⟨rfl, rfl, rfl, by decide +kernel, rfl, by decide +kernel, by decide +kernel⟩ c_is_whole rfl, fun _ _ _ _ _ _ us hl => match us, hl with | [_], _ => rfl⟩
abbrev N_is_between : List Str := ["value", "low", "high"]
def F_is_between : Fn := ⟨3, 3, true, (sSeq (sRet (eAnd (eCall 0 (aCons (eVar 0) aNil)) (ofB (tChain .LtE .LtE (eVar 1) (eVar 0) (eVar 2))))) sNext)⟩
def T_is_between : FnT := ⟨"is_between", "is_between", defArgs (top 7), defBody (top 7), defScope (top 7), N_is_between, ["value", "low", "high"], F_is_between⟩
theorem c_is_between : cF G N_is_between 3 true (defScope (top 7)) (defBody (top 7)) = some F_is_between := by kernel_rfl
theorem o_is_between : T_is_between.Ok G ∧ BndT T_is_between := ⟨FnT.ok_of (T := T_is_between) ⟨rfl, rfl, rfl, by decide +kernel, rfl, by decide +kernel, by decide +kernel⟩ c_is_between rfl, fun _ _ _ _ _ _ us hl => match us, hl with | [_, _, _], _ => rfl⟩
abbrev N_is_tuple_of : List Str := ["value", "many"]
def F_is_tuple_of : Fn := ⟨2, 2, true, (sSeq (sRet (eAnd (eIsi (eVar 0) .tuple) (ofB (tCmp .Eq (eB (b1 lenO) (aCons (eVar 0) aNil)) (eVar 1))))) sNext)⟩
def T_is_tuple_of : FnT := ⟨"is_tuple_of", "is_tuple_of", defArgs (top 8), defBody (top 8), defScope (top 8), N_is_tuple_of, ["value", "many"], F_is_tuple_of⟩
theorem c_is_tuple_of : cF G N_is_tuple_of 2 true (defScope (top 8)) (defBody (top 8)) = some F_is_tuple_of := by kernel_rfl
theorem o_is_tuple_of : T_is_tuple_of.Ok G ∧ BndT T_is_tuple_of := ⟨FnT.ok_of (T := T_is_tuple_of) ⟨rfl, rfl, rfl, by decide +kernel, rfl, by decide +kernel, by decide +kernel⟩ c_is_tuple_of rfl, fun _ _ _ _ _ _ us hl => match us, hl with | [_, _], _ => rfl⟩
abbrev N_is_ratio : List Str := ["value"]
def F_is_ratio : Fn := ⟨1, 1, true, (sSeq (sIf (tOr (tNot (tTru (eCall 2 (aCons (eVar 0) (aCons (eC (.int 2)) aNil))))) (tOr (tNot (tTru (eCall 0 (aCons (eItem (eVar 0) (eC (.int 0))) aNil)))) (tNot (tTru (eCall 0 (aCons (eItem (eVar 0) (eC (.int 1))) aNil)))))) (sSeq (sRet (eC (.bl false))) sNext) sNext) (sSeq (sRet (eAnd (ofB (tCmp .Gt (eItem (eVar 0) (eC (.int 1))) (eC (.int 0)))) (ofB (tCmp .Eq (eB gcdD (aCons (eItem (eVar 0) (eC (.int 0))) (aCons (eItem (eVar 0) (eC (.int 1))) aNil))) (eC (.int 1)))))) sNext))⟩
def T_is_ratio : FnT := ⟨"is_ratio", "is_ratio", defArgs (top 12), defBody (top 12), defScope (top 12), N_is_ratio, ["value"], F_is_ratio⟩
theorem c_is_ratio : cF G N_is_ratio 1 true (defScope (top 12)) (defBody (top 12)) = some F_is_ratio := by kernel_rfl
theorem o_is_ratio : T_is_ratio.Ok G ∧ BndT T_is_ratio := ⟨FnT.ok_of (T := T_is_ratio) ⟨rfl, rfl, rfl, by decide +kernel, rfl, by decide +kernel, by decide +kernel⟩ c_is_ratio rfl, fun _ _ _ _ _ _ us hl => match us, hl with | [_], _ => rfl⟩
abbrev N_is_row : List Str := ["value", "many", "each"]
def F_is_row : Fn := ⟨2, 3, true, (sSeq (sRet (eAnd (eCall 2 (aCons (eVar 0) (aCons (eVar 1) aNil))) (eB (b1 allO) (aCons (eFz (lComp (iSeq (eVar 0)) [2] (gName 2) tYes (eCall 3 (aCons (eVar 2) aNil)))) aNil)))) sNext)⟩
def T_is_row : FnT := ⟨"is_row", "is_row", defArgs (top 13), defBody (top 13), defScope (top 13), N_is_row, ["value", "many"], F_is_row⟩
theorem c_is_row : cF G N_is_row 2 true (defScope (top 13)) (defBody (top 13)) = some F_is_row := by kernel_rfl
theorem o_is_row : T_is_row.Ok G ∧ BndT T_is_row := ⟨FnT.ok_of (T := T_is_row) ⟨rfl, rfl, rfl, by decide +kernel, rfl, by decide +kernel, by decide +kernel⟩ c_is_row rfl, fun _ _ _ _ _ _ us hl => match us, hl with | [_, _], _ => rfl⟩
abbrev N_ratio : List Str := ["top", "low", "part"]
def F_ratio : Fn := ⟨2, 3, true, (sSeq (sAsg (eIf (tCmp .Gt (eVar 1) (eC (.int 0))) (eB gcdD (aCons (eVar 0) (aCons (eVar 1) aNil))) (eUn negD (eB gcdD (aCons (eVar 0) (aCons (eVar 1) aNil))))) (gName 2)) (sSeq (sRet (eTup (aCons (eOp fdivD (eVar 0) (eVar 2)) (aCons (eOp fdivD (eVar 1) (eVar 2)) aNil)))) sNext))⟩
def T_ratio : FnT := ⟨"ratio", "ratio", defArgs (top 14), defBody (top 14), defScope (top 14), N_ratio, ["top", "low"], F_ratio⟩
theorem c_ratio : cF G N_ratio 2 true (defScope (top 14)) (defBody (top 14)) = some F_ratio := by kernel_rfl
theorem o_ratio : T_ratio.Ok G ∧ BndT T_ratio := ⟨FnT.ok_of (T := T_ratio) ⟨rfl, rfl, rfl, by decide +kernel, rfl, by decide +kernel, by decide +kernel⟩ c_ratio rfl, fun _ _ _ _ _ _ us hl => match us, hl with | [_, _], _ => rfl⟩
abbrev N_plus : List Str := ["one", "two"]
def F_plus : Fn := ⟨2, 2, true, (sSeq (sRet (eCall 5 (aCons (eOp addA (eOp mulA (eItem (eVar 0) (eC (.int 0))) (eItem (eVar 1) (eC (.int 1)))) (eOp mulA (eItem (eVar 1) (eC (.int 0))) (eItem (eVar 0) (eC (.int 1))))) (aCons (eOp mulA (eItem (eVar 0) (eC (.int 1))) (eItem (eVar 1) (eC (.int 1)))) aNil)))) sNext)⟩
def T_plus : FnT := ⟨"plus", "plus", defArgs (top 15), defBody (top 15), defScope (top 15), N_plus, ["one", "two"], F_plus⟩
theorem c_plus : cF G N_plus 2 true (defScope (top 15)) (defBody (top 15)) = some F_plus := by kernel_rfl
theorem o_plus : T_plus.Ok G ∧ BndT T_plus := ⟨FnT.ok_of (T := T_plus) ⟨rfl, rfl, rfl, by decide +kernel, rfl, by decide +kernel, by decide +kernel⟩ c_plus rfl, fun _ _ _ _ _ _ us hl => match us, hl with | [_, _], _ => rfl⟩
abbrev N_minus : List Str := ["one", "two"]
def F_minus : Fn := ⟨2, 2, true, (sSeq (sRet (eCall 5 (aCons (eOp subD (eOp mulA (eItem (eVar 0) (eC (.int 0))) (eItem (eVar 1) (eC (.int 1)))) (eOp mulA (eItem (eVar 1) (eC (.int 0))) (eItem (eVar 0) (eC (.int 1))))) (aCons (eOp mulA (eItem (eVar 0) (eC (.int 1))) (eItem (eVar 1) (eC (.int 1)))) aNil)))) sNext)⟩
def T_minus : FnT := ⟨"minus", "minus", defArgs (top 16), defBody (top 16), defScope (top 16), N_minus, ["one", "two"], F_minus⟩
theorem c_minus : cF G N_minus 2 true (defScope (top 16)) (defBody (top 16)) = some F_minus := by kernel_rfl
theorem o_minus : T_minus.Ok G ∧ BndT T_minus := ⟨FnT.ok_of (T := T_minus) ⟨rfl, rfl, rfl, by decide +kernel, rfl, by decide +kernel, by decide +kernel⟩ c_minus rfl, fun _ _ _ _ _ _ us hl => match us, hl with | [_, _], _ => rfl⟩
abbrev N_times : List Str := ["one", "two"]
def F_times : Fn := ⟨2, 2, true, (sSeq (sRet (eCall 5 (aCons (eOp mulA (eItem (eVar 0) (eC (.int 0))) (eItem (eVar 1) (eC (.int 0)))) (aCons (eOp mulA (eItem (eVar 0) (eC (.int 1))) (eItem (eVar 1) (eC (.int 1)))) aNil)))) sNext)⟩
def T_times : FnT := ⟨"times", "times", defArgs (top 17), defBody (top 17), defScope (top 17), N_times, ["one", "two"], F_times⟩
theorem c_times : cF G N_times 2 true (defScope (top 17)) (defBody (top 17)) = some F_times := by kernel_rfl
theorem o_times : T_times.Ok G ∧ BndT T_times := ⟨FnT.ok_of (T := T_times) ⟨rfl, rfl, rfl, by decide +kernel, rfl, by decide +kernel, by decide +kernel⟩ c_times rfl, fun _ _ _ _ _ _ us hl => match us, hl with | [_, _], _ => rfl⟩
abbrev N_over : List Str := ["one", "two"]
def F_over : Fn := ⟨2, 2, true, (sSeq (sRet (eCall 5 (aCons (eOp mulA (eItem (eVar 0) (eC (.int 0))) (eItem (eVar 1) (eC (.int 1)))) (aCons (eOp mulA (eItem (eVar 0) (eC (.int 1))) (eItem (eVar 1) (eC (.int 0)))) aNil)))) sNext)⟩
def T_over : FnT := ⟨"over", "over", defArgs (top 18), defBody (top 18), defScope (top 18), N_over, ["one", "two"], F_over⟩
theorem c_over : cF G N_over 2 true (defScope (top 18)) (defBody (top 18)) = some F_over := by kernel_rfl
theorem o_over : T_over.Ok G ∧ BndT T_over := ⟨FnT.ok_of (T := T_over) ⟨rfl, rfl, rfl, by decide +kernel, rfl, by decide +kernel, by decide +kernel⟩ c_over rfl, fun _ _ _ _ _ _ us hl => match us, hl with | [_, _], _ => rfl⟩
abbrev N_total : List Str := ["fractions", "found", "each"]
def F_total : Fn := ⟨1, 3, true, (sSeq (sAsg (eC (.tup [.int 0, .int 1])) (gName 1)) (sSeq (sFor (iSeq (eVar 0)) (gName 2) (sSeq (sAsg (eCall 6 (aCons (eVar 1) (aCons (eVar 2) aNil))) (gName 1)) sNext)) (sSeq (sRet (eVar 1)) sNext)))⟩
def T_total : FnT := ⟨"total", "total", defArgs (top 19), defBody (top 19), defScope (top 19), N_total, ["fractions"], F_total⟩
theorem c_total : cF G N_total 1 true (defScope (top 19)) (defBody (top 19)) = some F_total := by kernel_rfl
theorem o_total : T_total.Ok G ∧ BndT T_total := ⟨FnT.ok_of (T := T_total) ⟨rfl, rfl, rfl, by decide +kernel, rfl, by decide +kernel, by decide +kernel⟩ c_total rfl, fun _ _ _ _ _ _ us hl => match us, hl with | [_], _ => rfl⟩
abbrev N_scaled : List Str := ["row", "number", "each"]
def F_scaled : Fn := ⟨2, 3, true, (sSeq (sRet (eB (b1 tupO) (aCons (eFz (lComp (iSeq (eVar 0)) [2] (gName 2) tYes (eCall 8 (aCons (eVar 2) (aCons (eVar 1) aNil))))) aNil))) sNext)⟩
def T_scaled : FnT := ⟨"scaled", "scaled", defArgs (top 20), defBody (top 20), defScope (top 20), N_scaled, ["row", "number"], F_scaled⟩
theorem c_scaled : cF G N_scaled 2 true (defScope (top 20)) (defBody (top 20)) = some F_scaled := by kernel_rfl
theorem o_scaled : T_scaled.Ok G ∧ BndT T_scaled := ⟨FnT.ok_of (T := T_scaled) ⟨rfl, rfl, rfl, by decide +kernel, rfl, by decide +kernel, by decide +kernel⟩ c_scaled rfl, fun _ _ _ _ _ _ us hl => match us, hl with | [_, _], _ => rfl⟩
abbrev N_is_table : List Str := ["value", "row", "each"]
def F_is_table : Fn := ⟨1, 3, true, (sSeq (sIf (tOr (tNot (tTru (eIsi (eVar 0) .tuple))) (tNot (tTru (eCall 1 (aCons (eB (b1 lenO) (aCons (eVar 0) aNil)) (aCons (eC (.int 1)) (aCons (eC (.int 6)) aNil))))))) (sSeq (sRet (eC (.bl false))) sNext) sNext) (sSeq (sRet (eB (b1 allO) (aCons (eFz (lComp (iSeq (eVar 0)) [1] (gName 1) tYes (eAnd (eCall 4 (aCons (eVar 1) (aCons (eB (b1 lenO) (aCons (eVar 0) aNil)) aNil))) (eB (b1 allO) (aCons (eFz (lComp (iSeq (eVar 1)) [2] (gName 2) tYes (ofB (tCmp .GtE (eItem (eVar 2) (eC (.int 0))) (eC (.int 0)))))) aNil))))) aNil))) sNext))⟩
def T_is_table : FnT := ⟨"is_table", "is_table", defArgs (top 23), defBody (top 23), defScope (top 23), N_is_table, ["value"], F_is_table⟩
theorem c_is_table : cF G N_is_table 1 true (defScope (top 23)) (defBody (top 23)) = some F_is_table := by kernel_rfl
theorem o_is_table : T_is_table.Ok G ∧ BndT T_is_table := ⟨FnT.ok_of (T := T_is_table) ⟨rfl, rfl, rfl, by decide +kernel, rfl, by decide +kernel, by decide +kernel⟩ c_is_table rfl, fun _ _ _ _ _ _ us hl => match us, hl with | [_], _ => rfl⟩
abbrev N_steps_from : List Str := ["table", "place", "goal", "each"]
def F_steps_from : Fn := ⟨2, 4, true, (sSeq (sRet (eFz (lComp (iEnum (eItem (eVar 0) (eVar 1))) [2, 3] (gTup [(gName 2), (gName 3)]) (tCmp .NotEq (eVar 3) (eC (.tup [.int 0, .int 1]))) (eVar 2)))) sNext)⟩
def T_steps_from : FnT := ⟨"steps_from", "steps_from", defArgs (top 24), defBody (top 24), defScope (top 24), N_steps_from, ["table", "place"], F_steps_from⟩
theorem c_steps_from : cF G N_steps_from 2 true (defScope (top 24)) (defBody (top 24)) = some F_steps_from := by kernel_rfl
theorem o_steps_from : T_steps_from.Ok G ∧ BndT T_steps_from := ⟨FnT.ok_of (T := T_steps_from) ⟨rfl, rfl, rfl, by decide +kernel, rfl, by decide +kernel, by decide +kernel⟩ c_steps_from rfl, fun _ _ _ _ _ _ us hl => match us, hl with | [_, _], _ => rfl⟩
abbrev N_come_to : List Str := ["table", "place", "found", "last", "each", "goal"]
def F_come_to : Fn := ⟨2, 6, true, (sSeq (sAsg (eTup (aCons (eFz (lDisp (aCons (eVar 1) aNil))) (aCons (eFz (lDisp (aCons (eVar 1) aNil))) aNil))) (gTup [(gName 2), (gName 3)])) (sSeq (sWhile (tCmp .NotEq (eVar 3) (eFz (lDisp aNil))) (sSeq (sAsg (eFz (lComp2 (iSeq (eVar 3)) [4, 5] (gName 4) tYes (iSeq (eCall 13 (aCons (eVar 0) (aCons (eVar 4) aNil)))) [5] (gName 5) tYes (eVar 5))) (gName 3)) (sSeq (sAsg (eFz (lComp (iSeq (eFz (lSortedSet (eVar 3)))) [5] (gName 5) (tCmp .NotIn (eVar 5) (eVar 2)) (eVar 5))) (gName 3)) (sSeq (sAsg (eOp addA (eVar 2) (eVar 3)) (gName 2)) sNext)))) (sSeq (sRet (eFz (lSorted (eVar 2)))) sNext)))⟩
def T_come_to : FnT := ⟨"come_to", "come_to", defArgs (top 25), defBody (top 25), defScope (top 25), N_come_to, ["table", "place"], F_come_to⟩
theorem c_come_to : cF G N_come_to 2 true (defScope (top 25)) (defBody (top 25)) = some F_come_to := by kernel_rfl
theorem o_come_to : T_come_to.Ok G ∧ BndT T_come_to := ⟨FnT.ok_of (T := T_come_to) ⟨rfl, rfl, rfl, by decide +kernel, rfl, by decide +kernel, by decide +kernel⟩ c_come_to rfl, fun _ _ _ _ _ _ us hl => match us, hl with | [_, _], _ => rfl⟩
abbrev N_is_whole_table : List Str := ["table", "place"]
def F_is_whole_table : Fn := ⟨1, 2, true, (sSeq (sRet (eB (b1 allO) (aCons (eFz (lComp (iRange1 (eB (b1 lenO) (aCons (eVar 0) aNil))) [1] (gName 1) tYes (ofB (tCmp .Eq (eB (b1 lenO) (aCons (eCall 14 (aCons (eVar 0) (aCons (eVar 1) aNil))) aNil)) (eB (b1 lenO) (aCons (eVar 0) aNil)))))) aNil))) sNext)⟩
def T_is_whole_table : FnT := ⟨"is_whole_table", "is_whole_table", defArgs (top 26), defBody (top 26), defScope (top 26), N_is_whole_table, ["table"], F_is_whole_table⟩
theorem c_is_whole_table : cF G N_is_whole_table 1 true (defScope (top 26)) (defBody (top 26)) = some F_is_whole_table := by kernel_rfl
theorem o_is_whole_table : T_is_whole_table.Ok G ∧ BndT T_is_whole_table := ⟨FnT.ok_of (T := T_is_whole_table) ⟨rfl, rfl, rfl, by decide +kernel, rfl, by decide +kernel, by decide +kernel⟩ c_is_whole_table rfl, fun _ _ _ _ _ _ us hl => match us, hl with | [_], _ => rfl⟩
abbrev N_is_walk_by : List Str := ["value", "row"]
def F_is_walk_by : Fn := ⟨1, 2, true, (sSeq (sRet (eAnd (eCall 12 (aCons (eVar 0) aNil)) (eAnd (eB (b1 allO) (aCons (eFz (lComp (iSeq (eVar 0)) [1] (gName 1) tYes (ofB (tCmp .Eq (eCall 10 (aCons (eVar 1) aNil)) (eC (.tup [.int 1, .int 1])))))) aNil)) (eCall 15 (aCons (eVar 0) aNil))))) sNext)⟩
def T_is_walk_by : FnT := ⟨"is_walk_by", "is_walk_by", defArgs (top 27), defBody (top 27), defScope (top 27), N_is_walk_by, ["value"], F_is_walk_by⟩
theorem c_is_walk_by : cF G N_is_walk_by 1 true (defScope (top 27)) (defBody (top 27)) = some F_is_walk_by := by kernel_rfl
theorem o_is_walk_by : T_is_walk_by.Ok G ∧ BndT T_is_walk_by := ⟨FnT.ok_of (T := T_is_walk_by) ⟨rfl, rfl, rfl, by decide +kernel, rfl, by decide +kernel, by decide +kernel⟩ c_is_walk_by rfl, fun _ _ _ _ _ _ us hl => match us, hl with | [_], _ => rfl⟩
abbrev N_turned : List Str := ["table"]
def F_turned : Fn := ⟨1, 1, true, (sSeq (sRet (eZipS (eVar 0))) sNext)⟩
def T_turned : FnT := ⟨"turned", "turned", defArgs (top 28), defBody (top 28), defScope (top 28), N_turned, ["table"], F_turned⟩
theorem c_turned : cF G N_turned 1 true (defScope (top 28)) (defBody (top 28)) = some F_turned := by kernel_rfl
theorem o_turned : T_turned.Ok G ∧ BndT T_turned := ⟨FnT.ok_of (T := T_turned) ⟨rfl, rfl, rfl, by decide +kernel, rfl, by decide +kernel, by decide +kernel⟩ c_turned rfl, fun _ _ _ _ _ _ us hl => match us, hl with | [_], _ => rfl⟩
abbrev N_less_row : List Str := ["row", "lead", "by", "here", "there"]
def F_less_row : Fn := ⟨3, 5, true, (sSeq (sRet (eFz (lComp (iZip (eVar 0) (eVar 1)) [3, 4] (gTup [(gName 3), (gName 4)]) tYes (eCall 7 (aCons (eVar 3) (aCons (eCall 8 (aCons (eVar 2) (aCons (eVar 4) aNil))) aNil)))))) sNext)⟩
def T_less_row : FnT := ⟨"less_row", "less_row", defArgs (top 30), defBody (top 30), defScope (top 30), N_less_row, ["row", "lead", "by"], F_less_row⟩
theorem c_less_row : cF G N_less_row 3 true (defScope (top 30)) (defBody (top 30)) = some F_less_row := by kernel_rfl
theorem o_less_row : T_less_row.Ok G ∧ BndT T_less_row := ⟨FnT.ok_of (T := T_less_row) ⟨rfl, rfl, rfl, by decide +kernel, rfl, by decide +kernel, by decide +kernel⟩ c_less_row rfl, fun _ _ _ _ _ _ us hl => match us, hl with | [_, _, _], _ => rfl⟩
abbrev N_answers_of : List Str := ["table", "rights", "rows", "many", "place", "spot", "lead", "row", "right", "each", "at"]
def F_answers_of : Fn := ⟨2, 11, true, (sSeq (sAsg (eMu (lComp (iZip (eVar 0) (eVar 1)) [7, 8] (gTup [(gName 7), (gName 8)]) tYes (eOp addA (eFz (lOf (eVar 7))) (eFz (lOf (eVar 8)))))) (gName 2)) (sSeq (sAsg (eB (b1 lenO) (aCons (eVar 0) aNil)) (gName 3)) (sSeq (sFor (iRange1 (eVar 3)) (gName 4) (sSeq (sAsg (eItem (eFz (lComp (iRange2 (eVar 4) (eVar 3)) [10] (gName 10) (tCmp .NotEq (eItem (eItem (eVar 2) (eVar 10)) (eVar 4)) (eC (.tup [.int 0, .int 1]))) (eVar 10))) (eC (.int 0))) (gName 5)) (sSeq (sAsg (eTup (aCons (eItem (eVar 2) (eVar 5)) (aCons (eItem (eVar 2) (eVar 4)) aNil))) (gTup [(gSub (eVar 2) (eVar 4)), (gSub (eVar 2) (eVar 5))])) (sSeq (sAsg (eFz (lComp (iSeq (eItem (eVar 2) (eVar 4))) [9] (gName 9) tYes (eCall 9 (aCons (eVar 9) (aCons (eItem (eItem (eVar 2) (eVar 4)) (eVar 4)) aNil))))) (gName 6)) (sSeq (sAsg (eMu (lComp (iSeq (eVar 2)) [7] (gName 7) tYes (eCall 18 (aCons (eVar 7) (aCons (eVar 6) (aCons (eItem (eVar 7) (eVar 4)) aNil)))))) (gName 2)) (sSeq (sAsg (eVar 6) (gSub (eVar 2) (eVar 4))) sNext)))))) (sSeq (sRet (eFz (lComp (iSeq (eVar 2)) [7] (gName 7) tYes (eB (b1 tupO) (aCons (eSlice (eVar 7) (oSome (eVar 3)) oNone) aNil))))) sNext))))⟩
def T_answers_of : FnT := ⟨"answers_of", "answers_of", defArgs (top 31), defBody (top 31), defScope (top 31), N_answers_of, ["table", "rights"], F_answers_of⟩
theorem c_answers_of : cF G N_answers_of 2 true (defScope (top 31)) (defBody (top 31)) = some F_answers_of := by kernel_rfl
theorem o_answers_of : T_answers_of.Ok G ∧ BndT T_answers_of := ⟨FnT.ok_of (T := T_answers_of) ⟨rfl, rfl, rfl, by decide +kernel, rfl, by decide +kernel, by decide +kernel⟩ c_answers_of rfl, fun _ _ _ _ _ _ us hl => match us, hl with | [_, _], _ => rfl⟩
abbrev N_shares_by : List Str := ["walk", "table", "rights", "place", "column", "at", "row", "each"]
def F_shares_by : Fn := ⟨1, 8, true, (sSeq (sAsg (eMu (lDisp aNil)) (gName 1)) (sSeq (sFor (iEnum (eCall 17 (aCons (eVar 0) aNil))) (gTup [(gName 3), (gName 4)]) (sSeq (sDrop (eMeth appD (eVar 1) (eFz (lComp (iEnum (eVar 4)) [5, 7] (gTup [(gName 5), (gName 7)]) tYes (eCall 7 (aCons (eIf (tCmp .Eq (eVar 5) (eVar 3)) (eC (.tup [.int 1, .int 1])) (eC (.tup [.int 0, .int 1]))) (aCons (eVar 7) aNil))))))) sNext)) (sSeq (sAsg (eOp mulA (eFz (lDisp (aCons (eC (.tup [.int 1, .int 1])) aNil))) (eB (b1 lenO) (aCons (eVar 0) aNil))) (gSub (eVar 1) (eC (.int 0)))) (sSeq (sAsg (eFz (lComp (iRange1 (eB (b1 lenO) (aCons (eVar 0) aNil))) [5] (gName 5) tYes (eTup (aCons (eIf (tCmp .Eq (eVar 5) (eC (.int 0))) (eC (.tup [.int 1, .int 1])) (eC (.tup [.int 0, .int 1]))) aNil)))) (gName 2)) (sSeq (sRet (eB (b1 tupO) (aCons (eFz (lComp (iSeq (eCall 19 (aCons (eVar 1) (aCons (eVar 2) aNil)))) [6] (gName 6) tYes (eItem (eVar 6) (eC (.int 0))))) aNil))) sNext)))))⟩
def T_shares_by : FnT := ⟨"shares_by", "shares_by", defArgs (top 33), defBody (top 33), defScope (top 33), N_shares_by, ["walk"], F_shares_by⟩
theorem c_shares_by : cF G N_shares_by 1 true (defScope (top 33)) (defBody (top 33)) = some F_shares_by := by kernel_rfl
theorem o_shares_by : T_shares_by.Ok G ∧ BndT T_shares_by := ⟨FnT.ok_of (T := T_shares_by) ⟨rfl, rfl, rfl, by decide +kernel, rfl, by decide +kernel, by decide +kernel⟩ c_shares_by rfl, fun _ _ _ _ _ _ us hl => match us, hl with | [_], _ => rfl⟩
abbrev N_flows_by : List Str := ["walk", "row", "share"]
def F_flows_by : Fn := ⟨1, 3, true, (sSeq (sRet (eB (b1 tupO) (aCons (eFz (lComp (iZip (eVar 0) (eCall 20 (aCons (eVar 0) aNil))) [1, 2] (gTup [(gName 1), (gName 2)]) tYes (eCall 11 (aCons (eVar 1) (aCons (eVar 2) aNil))))) aNil))) sNext)⟩
def T_flows_by : FnT := ⟨"flows_by", "flows_by", defArgs (top 34), defBody (top 34), defScope (top 34), N_flows_by, ["walk"], F_flows_by⟩
theorem c_flows_by : cF G N_flows_by 1 true (defScope (top 34)) (defBody (top 34)) = some F_flows_by := by kernel_rfl
theorem o_flows_by : T_flows_by.Ok G ∧ BndT T_flows_by := ⟨FnT.ok_of (T := T_flows_by) ⟨rfl, rfl, rfl, by decide +kernel, rfl, by decide +kernel, by decide +kernel⟩ c_flows_by rfl, fun _ _ _ _ _ _ us hl => match us, hl with | [_], _ => rfl⟩
abbrev N_chance_along : List Str := ["walk", "places", "found", "one", "two"]
def F_chance_along : Fn := ⟨2, 5, true, (sSeq (sAsg (eC (.tup [.int 1, .int 1])) (gName 2)) (sSeq (sFor (iZip (eVar 1) (eSlice (eVar 1) (oSome (eC (.int 1))) oNone)) (gTup [(gName 3), (gName 4)]) (sSeq (sAsg (eCall 8 (aCons (eVar 2) (aCons (eItem (eItem (eVar 0) (eVar 3)) (eVar 4)) aNil))) (gName 2)) sNext)) (sSeq (sRet (eVar 2)) sNext)))⟩
def T_chance_along : FnT := ⟨"chance_along", "chance_along", defArgs (top 35), defBody (top 35), defScope (top 35), N_chance_along, ["walk", "places"], F_chance_along⟩
theorem c_chance_along : cF G N_chance_along 2 true (defScope (top 35)) (defBody (top 35)) = some F_chance_along := by kernel_rfl
theorem o_chance_along : T_chance_along.Ok G ∧ BndT T_chance_along := ⟨FnT.ok_of (T := T_chance_along) ⟨rfl, rfl, rfl, by decide +kernel, rfl, by decide +kernel, by decide +kernel⟩ c_chance_along rfl, fun _ _ _ _ _ _ us hl => match us, hl with | [_, _], _ => rfl⟩
abbrev N_seen_by : List Str := ["walk", "places"]
def F_seen_by : Fn := ⟨2, 2, true, (sSeq (sRet (eCall 8 (aCons (eItem (eCall 20 (aCons (eVar 0) aNil)) (eItem (eVar 1) (eC (.int 0)))) (aCons (eCall 22 (aCons (eVar 0) (aCons (eVar 1) aNil))) aNil)))) sNext)⟩
def T_seen_by : FnT := ⟨"seen_by", "seen_by", defArgs (top 36), defBody (top 36), defScope (top 36), N_seen_by, ["walk", "places"], F_seen_by⟩
theorem c_seen_by : cF G N_seen_by 2 true (defScope (top 36)) (defBody (top 36)) = some F_seen_by := by kernel_rfl
theorem o_seen_by : T_seen_by.Ok G ∧ BndT T_seen_by := ⟨FnT.ok_of (T := T_seen_by) ⟨rfl, rfl, rfl, by decide +kernel, rfl, by decide +kernel, by decide +kernel⟩ c_seen_by rfl, fun _ _ _ _ _ _ us hl => match us, hl with | [_, _], _ => rfl⟩
abbrev N_check_walk : List Str := ["value"]
def F_check_walk : Fn := ⟨1, 1, true, (sSeq (sIf (tNot (tTru (eCall 16 (aCons (eVar 0) aNil)))) (sSeq sNever sNext) sNext) sNext)⟩
def T_check_walk : FnT := ⟨"check_walk", "check_walk", defArgs (top 38), defBody (top 38), defScope (top 38), N_check_walk, ["value"], F_check_walk⟩
theorem c_check_walk : cF G N_check_walk 1 true (defScope (top 38)) (defBody (top 38)) = some F_check_walk := by kernel_rfl
theorem o_check_walk : T_check_walk.Ok G ∧ BndT T_check_walk := ⟨FnT.ok_of (T := T_check_walk) ⟨rfl, rfl, rfl, by decide +kernel, rfl, by decide +kernel, by decide +kernel⟩ c_check_walk rfl, fun _ _ _ _ _ _ us hl => match us, hl with | [_], _ => rfl⟩
abbrev N_check_places : List Str := ["value", "many", "index", "each"]
def F_check_places : Fn := ⟨2, 4, true, (sSeq (sIf (tOr (tNot (tTru (eIsi (eVar 0) .tuple))) (tCmp .Eq (eVar 0) (eTup aNil))) (sSeq sNever sNext) sNext) (sSeq (sFor (iEnum (eVar 0)) (gTup [(gName 2), (gName 3)]) (sSeq (sIf (tNot (tTru (eCall 1 (aCons (eVar 3) (aCons (eC (.int 0)) (aCons (eOp subD (eVar 1) (eC (.int 1))) aNil)))))) (sSeq sNever sNext) sNext) sNext)) sNext))⟩
def T_check_places : FnT := ⟨"check_places", "check_places", defArgs (top 39), defBody (top 39), defScope (top 39), N_check_places, ["value", "many"], F_check_places⟩
theorem c_check_places : cF G N_check_places 2 true (defScope (top 39)) (defBody (top 39)) = some F_check_places := by kernel_rfl
theorem o_check_places : T_check_places.Ok G ∧ BndT T_check_places := ⟨FnT.ok_of (T := T_check_places) ⟨rfl, rfl, rfl, by decide +kernel, rfl, by decide +kernel, by decide +kernel⟩ c_check_places rfl, fun _ _ _ _ _ _ us hl => match us, hl with | [_, _], _ => rfl⟩
abbrev N_flows_of : List Str := ["walk"]
def F_flows_of : Fn := ⟨1, 1, true, (sSeq (sDrop (eCall 24 (aCons (eVar 0) aNil))) (sSeq (sRet (eCall 21 (aCons (eVar 0) aNil))) sNext))⟩
def T_flows_of : FnT := ⟨"flows_of", "flows_of", defArgs (top 41), defBody (top 41), defScope (top 41), N_flows_of, ["walk"], F_flows_of⟩
theorem c_flows_of : cF G N_flows_of 1 true (defScope (top 41)) (defBody (top 41)) = some F_flows_of := by kernel_rfl
theorem o_flows_of : T_flows_of.Ok G ∧ BndT T_flows_of := ⟨FnT.ok_of (T := T_flows_of) ⟨rfl, rfl, rfl, by decide +kernel, rfl, by decide +kernel, by decide +kernel⟩ c_flows_of rfl, fun _ _ _ _ _ _ us hl => match us, hl with | [_], _ => rfl⟩
abbrev N_seen_chance : List Str := ["walk", "places"]
def F_seen_chance : Fn := ⟨2, 2, true, (sSeq (sDrop (eCall 24 (aCons (eVar 0) aNil))) (sSeq (sDrop (eCall 25 (aCons (eVar 1) (aCons (eB (b1 lenO) (aCons (eVar 0) aNil)) aNil)))) (sSeq (sRet (eCall 23 (aCons (eVar 0) (aCons (eVar 1) aNil)))) sNext)))⟩
def T_seen_chance : FnT := ⟨"seen_chance", "seen_chance", defArgs (top 42), defBody (top 42), defScope (top 42), N_seen_chance, ["walk", "places"], F_seen_chance⟩
theorem c_seen_chance : cF G N_seen_chance 2 true (defScope (top 42)) (defBody (top 42)) = some F_seen_chance := by kernel_rfl
theorem o_seen_chance : T_seen_chance.Ok G ∧ BndT T_seen_chance := ⟨FnT.ok_of (T := T_seen_chance) ⟨rfl, rfl, rfl, by decide +kernel, rfl, by decide +kernel, by decide +kernel⟩ c_seen_chance rfl, fun _ _ _ _ _ _ us hl => match us, hl with | [_, _], _ => rfl⟩
abbrev N__law_well : List Str := ["script", "salt", "stir", "cell"]
def F__law_well : Fn := ⟨2, 4, false, (sSeq (sAsg (eOp addA (eC (.int 40129)) (eOp mulA (eC (.int 1013)) (eVar 1))) (gName 2)) (sSeq (sFor (iSeq (eSlice (eVar 0) oNone (oSome (eC (.int 63))))) (gName 3) (sSeq (sAsg (eOp modD (eB (b1 intO) (aCons (eOp addA (eOp addA (eOp mulA (eVar 2) (eC (.int 48271))) (eOp mulA (eOp modD (eB (b1 intO) (aCons (eVar 3) aNil)) (eC (.int 2147483587))) (eC (.int 7)))) (eC (.int 13))) aNil)) (eC (.int 2147483647))) (gName 2)) sNext)) (sSeq (sRet (eMu (lDisp (aCons (eFz (lComp (iSeq (eSlice (eVar 0) oNone (oSome (eC (.int 63))))) [3] (gName 3) (tOr (tCmp .Lt (eVar 3) (eC (.int 0))) (tCmp .GtE (eVar 3) (eOp powD (eC (.int 10)) (eC (.int 18))))) (eB (b1 absO) (aCons (eVar 3) aNil)))) (aCons (eVar 2) (aCons (eC (.int 0)) aNil)))))) sNext)))⟩
def T__law_well : FnT := ⟨"_law_well", "_law_well", defArgs (top 44), defBody (top 44), defScope (top 44), N__law_well, ["script", "salt"], F__law_well⟩
theorem c__law_well : cF G N__law_well 2 false (defScope (top 44)) (defBody (top 44)) = some F__law_well := by kernel_rfl
theorem o__law_well : T__law_well.Ok G ∧ BndT T__law_well := ⟨FnT.ok_of (T := T__law_well) ⟨rfl, rfl, rfl, by decide +kernel, rfl, by decide +kernel, by decide +kernel⟩ c__law_well rfl, fun _ _ _ _ _ _ us hl => match us, hl with | [_, _], _ => rfl⟩
abbrev N__law_pick : List Str := ["well", "limit", "rest", "digit"]
def F__law_pick : Fn := ⟨2, 4, true, (sSeq (sIf (tCmp .NotEq (eItem (eVar 0) (eC (.int 0))) (eFz (lDisp aNil))) (sSeq (sAsg (eB divmodD (aCons (eItem (eItem (eVar 0) (eC (.int 0))) (eC (.int 0))) (aCons (eVar 1) aNil))) (gTup [(gName 2), (gName 3)])) (sSeq (sAsg (eOp addA (eIf (tCmp .Gt (eVar 2) (eC (.int 0))) (eFz (lDisp (aCons (eVar 2) aNil))) (eFz (lDisp aNil))) (eSlice (eItem (eVar 0) (eC (.int 0))) (oSome (eC (.int 1))) oNone)) (gSub (eVar 0) (eC (.int 0)))) (sSeq (sRet (eVar 3)) sNext))) sNext) (sSeq (sAsg (eOp addA (eItem (eVar 0) (eC (.int 2))) (eC (.int 1))) (gSub (eVar 0) (eC (.int 2)))) (sSeq (sAsg (eOp modD (eB (b1 intO) (aCons (eOp addA (eOp addA (eOp mulA (eItem (eVar 0) (eC (.int 1))) (eC (.int 16807))) (eOp mulA (eC (.int 28411)) (eItem (eVar 0) (eC (.int 2))))) (eC (.int 101))) aNil)) (eC (.int 2147483647))) (gSub (eVar 0) (eC (.int 1)))) (sSeq (sRet (eOp modD (eB (b1 intO) (aCons (eOp fdivD (eItem (eVar 0) (eC (.int 1))) (eC (.int 1009))) aNil)) (eVar 1))) sNext))))⟩
def T__law_pick : FnT := ⟨"_law_pick", "_law_pick", defArgs (top 45), defBody (top 45), defScope (top 45), N__law_pick, ["well", "limit"], F__law_pick⟩
theorem c__law_pick : cF G N__law_pick 2 true (defScope (top 45)) (defBody (top 45)) = some F__law_pick := by kernel_rfl
theorem o__law_pick : T__law_pick.Ok G ∧ BndT T__law_pick := ⟨FnT.ok_of (T := T__law_pick) ⟨rfl, rfl, rfl, by decide +kernel, rfl, by decide +kernel, by decide +kernel⟩ c__law_pick rfl, fun _ _ _ _ _ _ us hl => match us, hl with | [_, _], _ => rfl⟩
abbrev N__law_of : List Str := ["well", "some"]
def F__law_of : Fn := ⟨2, 2, true, (sSeq (sRet (eItem (eVar 1) (eCall 29 (aCons (eVar 0) (aCons (eB (b1 lenO) (aCons (eVar 1) aNil)) aNil))))) sNext)⟩
def T__law_of : FnT := ⟨"_law_of", "_law_of", defArgs (top 46), defBody (top 46), defScope (top 46), N__law_of, ["well", "some"], F__law_of⟩
theorem c__law_of : cF G N__law_of 2 true (defScope (top 46)) (defBody (top 46)) = some F__law_of := by kernel_rfl
theorem o__law_of : T__law_of.Ok G ∧ BndT T__law_of := ⟨FnT.ok_of (T := T__law_of) ⟨rfl, rfl, rfl, by decide +kernel, rfl, by decide +kernel, by decide +kernel⟩ c__law_of rfl, fun _ _ _ _ _ _ us hl => match us, hl with | [_, _], _ => rfl⟩
abbrev N__law_frac : List Str := ["up", "down", "here", "there"]
def F__law_frac : Fn := ⟨2, 4, true, (sSeq (sPar (aCons (eB (b1 absO) (aCons (eVar 0) aNil)) (aCons (eVar 1) aNil)) [2, 3]) (sSeq (sWhile (tCmp .Gt (eVar 3) (eC (.int 0))) (sSeq (sPar (aCons (eVar 3) (aCons (eOp modD (eB (b1 intO) (aCons (eVar 2) aNil)) (eVar 3)) aNil)) [2, 3]) sNext)) (sSeq (sRet (eTup (aCons (eOp fdivD (eVar 0) (eVar 2)) (aCons (eOp fdivD (eVar 1) (eVar 2)) aNil)))) sNext)))⟩
def T__law_frac : FnT := ⟨"_law_frac", "_law_frac", defArgs (top 47), defBody (top 47), defScope (top 47), N__law_frac, ["up", "down"], F__law_frac⟩
theorem c__law_frac : cF G N__law_frac 2 true (defScope (top 47)) (defBody (top 47)) = some F__law_frac := by kernel_rfl
theorem o__law_frac : T__law_frac.Ok G ∧ BndT T__law_frac := ⟨FnT.ok_of (T := T__law_frac) ⟨rfl, rfl, rfl, by decide +kernel, rfl, by decide +kernel, by decide +kernel⟩ c__law_frac rfl, fun _ _ _ _ _ _ us hl => match us, hl with | [_, _], _ => rfl⟩
abbrev N__law_plus : List Str := ["here", "there"]
def F__law_plus : Fn := ⟨2, 2, true, (sSeq (sRet (eCall 31 (aCons (eOp addA (eOp mulA (eItem (eVar 0) (eC (.int 0))) (eItem (eVar 1) (eC (.int 1)))) (eOp mulA (eItem (eVar 1) (eC (.int 0))) (eItem (eVar 0) (eC (.int 1))))) (aCons (eOp mulA (eItem (eVar 0) (eC (.int 1))) (eItem (eVar 1) (eC (.int 1)))) aNil)))) sNext)⟩
def T__law_plus : FnT := ⟨"_law_plus", "_law_plus", defArgs (top 48), defBody (top 48), defScope (top 48), N__law_plus, ["here", "there"], F__law_plus⟩
theorem c__law_plus : cF G N__law_plus 2 true (defScope (top 48)) (defBody (top 48)) = some F__law_plus := by kernel_rfl
theorem o__law_plus : T__law_plus.Ok G ∧ BndT T__law_plus := ⟨FnT.ok_of (T := T__law_plus) ⟨rfl, rfl, rfl, by decide +kernel, rfl, by decide +kernel, by decide +kernel⟩ c__law_plus rfl, fun _ _ _ _ _ _ us hl => match us, hl with | [_, _], _ => rfl⟩
abbrev N__law_times : List Str := ["here", "there"]
def F__law_times : Fn := ⟨2, 2, true, (sSeq (sRet (eCall 31 (aCons (eOp mulA (eItem (eVar 0) (eC (.int 0))) (eItem (eVar 1) (eC (.int 0)))) (aCons (eOp mulA (eItem (eVar 0) (eC (.int 1))) (eItem (eVar 1) (eC (.int 1)))) aNil)))) sNext)⟩
def T__law_times : FnT := ⟨"_law_times", "_law_times", defArgs (top 49), defBody (top 49), defScope (top 49), N__law_times, ["here", "there"], F__law_times⟩
theorem c__law_times : cF G N__law_times 2 true (defScope (top 49)) (defBody (top 49)) = some F__law_times := by kernel_rfl
theorem o__law_times : T__law_times.Ok G ∧ BndT T__law_times := ⟨FnT.ok_of (T := T__law_times) ⟨rfl, rfl, rfl, by decide +kernel, rfl, by decide +kernel, by decide +kernel⟩ c__law_times rfl, fun _ _ _ _ _ _ us hl => match us, hl with | [_, _], _ => rfl⟩
abbrev N__law_over : List Str := ["here", "there"]
def F__law_over : Fn := ⟨2, 2, true, (sSeq (sRet (eCall 31 (aCons (eOp mulA (eItem (eVar 0) (eC (.int 0))) (eItem (eVar 1) (eC (.int 1)))) (aCons (eOp mulA (eItem (eVar 0) (eC (.int 1))) (eItem (eVar 1) (eC (.int 0)))) aNil)))) sNext)⟩
def T__law_over : FnT := ⟨"_law_over", "_law_over", defArgs (top 50), defBody (top 50), defScope (top 50), N__law_over, ["here", "there"], F__law_over⟩
theorem c__law_over : cF G N__law_over 2 true (defScope (top 50)) (defBody (top 50)) = some F__law_over := by kernel_rfl
theorem o__law_over : T__law_over.Ok G ∧ BndT T__law_over := ⟨FnT.ok_of (T := T__law_over) ⟨rfl, rfl, rfl, by decide +kernel, rfl, by decide +kernel, by decide +kernel⟩ c__law_over rfl, fun _ _ _ _ _ _ us hl => match us, hl with | [_, _], _ => rfl⟩
abbrev N__law_total : List Str := ["parts", "found", "part"]
def F__law_total : Fn := ⟨1, 3, true, (sSeq (sAsg (eTup (aCons (eC (.int 0)) (aCons (eC (.int 1)) aNil))) (gName 1)) (sSeq (sFor (iSeq (eVar 0)) (gName 2) (sSeq (sAsg (eCall 32 (aCons (eVar 1) (aCons (eVar 2) aNil))) (gName 1)) sNext)) (sSeq (sRet (eVar 1)) sNext)))⟩
def T__law_total : FnT := ⟨"_law_total", "_law_total", defArgs (top 51), defBody (top 51), defScope (top 51), N__law_total, ["parts"], F__law_total⟩
theorem c__law_total : cF G N__law_total 1 true (defScope (top 51)) (defBody (top 51)) = some F__law_total := by kernel_rfl
theorem o__law_total : T__law_total.Ok G ∧ BndT T__law_total := ⟨FnT.ok_of (T := T__law_total) ⟨rfl, rfl, rfl, by decide +kernel, rfl, by decide +kernel, by decide +kernel⟩ c__law_total rfl, fun _ _ _ _ _ _ us hl => match us, hl with | [_], _ => rfl⟩
abbrev N__law_over_sum : List Str := ["row", "whole", "part"]
def F__law_over_sum : Fn := ⟨1, 3, true, (sSeq (sAsg (eCall 35 (aCons (eVar 0) aNil)) (gName 1)) (sSeq (sRet (eB (b1 tupO) (aCons (eFz (lComp (iSeq (eVar 0)) [2] (gName 2) tYes (eCall 34 (aCons (eVar 2) (aCons (eVar 1) aNil))))) aNil))) sNext))⟩
def T__law_over_sum : FnT := ⟨"_law_over_sum", "_law_over_sum", defArgs (top 52), defBody (top 52), defScope (top 52), N__law_over_sum, ["row"], F__law_over_sum⟩
theorem c__law_over_sum : cF G N__law_over_sum 1 true (defScope (top 52)) (defBody (top 52)) = some F__law_over_sum := by kernel_rfl
theorem o__law_over_sum : T__law_over_sum.Ok G ∧ BndT T__law_over_sum := ⟨FnT.ok_of (T := T__law_over_sum) ⟨rfl, rfl, rfl, by decide +kernel, rfl, by decide +kernel, by decide +kernel⟩ c__law_over_sum rfl, fun _ _ _ _ _ _ us hl => match us, hl with | [_], _ => rfl⟩
abbrev N__law_ears : List Str := ["well", "many", "turn", "left", "known", "found", "step", "here", "last", "fresh", "there"]
def F__law_ears : Fn := ⟨2, 11, false, (sSeq (sPar (aCons (eMu (lRg1 (eVar 1))) (aCons (eMu (lDisp aNil)) (aCons (eMu (lDisp aNil)) aNil))) [3, 4, 5]) (sSeq (sDrop (eMeth appD (eVar 4) (eMeth popD (eVar 3) (eCall 29 (aCons (eVar 0) (aCons (eVar 1) aNil)))))) (sSeq (sFor (iRange1 (eVar 1)) (gName 2) (sSeq (sIf (tCmp .Eq (eVar 3) (eFz (lDisp aNil))) (sSeq sBreak sNext) sNext) (sSeq (sPar (aCons (eCall 30 (aCons (eVar 0) (aCons (eVar 4) aNil))) (aCons (eCall 30 (aCons (eVar 0) (aCons (eVar 4) aNil))) (aCons (eMu (lDisp aNil)) aNil))) [7, 8, 9]) (sSeq (sFor (iRange1 (eOp addA (eC (.int 1)) (eCall 29 (aCons (eVar 0) (aCons (eB (b1 lenO) (aCons (eVar 3) aNil)) aNil))))) (gName 6) (sSeq (sAsg (eMeth popD (eVar 3) (eCall 29 (aCons (eVar 0) (aCons (eB (b1 lenO) (aCons (eVar 3) aNil)) aNil)))) (gName 10)) (sSeq (sDrop (eMeth appD (eVar 5) (eTup (aCons (eVar 7) (aCons (eVar 10) aNil))))) (sSeq (sDrop (eMeth appD (eVar 9) (eVar 10))) (sSeq (sAsg (eVar 10) (gName 7)) sNext))))) (sSeq (sDrop (eMeth appD (eVar 5) (eTup (aCons (eVar 7) (aCons (eVar 8) aNil))))) (sSeq (sAsg (eMu (lOp catL (eVar 4) (eVar 9))) (gName 4)) sNext)))))) (sSeq (sRet (eVar 5)) sNext))))⟩
def T__law_ears : FnT := ⟨"_law_ears", "_law_ears", defArgs (top 53), defBody (top 53), defScope (top 53), N__law_ears, ["well", "many"], F__law_ears⟩
theorem c__law_ears : cF G N__law_ears 2 false (defScope (top 53)) (defBody (top 53)) = some F__law_ears := by kernel_rfl
theorem o__law_ears : T__law_ears.Ok G ∧ BndT T__law_ears := ⟨FnT.ok_of (T := T__law_ears) ⟨rfl, rfl, rfl, by decide +kernel, rfl, by decide +kernel, by decide +kernel⟩ c__law_ears rfl, fun _ _ _ _ _ _ us hl => match us, hl with | [_, _], _ => rfl⟩
abbrev N__law_part : List Str := ["well", "way"]
def F__law_part : Fn := ⟨1, 2, true, (sSeq (sAsg (eCall 29 (aCons (eVar 0) (aCons (eC (.int 25)) aNil))) (gName 1)) (sSeq (sRet (eIf (tCmp .Lt (eVar 1) (eC (.int 24))) (eTup (aCons (eItem (eTup (aCons (eC (.int 1)) (aCons (eC (.int 2)) (aCons (eC (.int 3)) (aCons (eC (.int 1)) (aCons (eC (.int 4)) (aCons (eC (.int 2)) aNil))))))) (eOp modD (eB (b1 intO) (aCons (eVar 1) aNil)) (eC (.int 6)))) (aCons (eC (.int 1)) aNil))) (eTup (aCons (eOp addA (eC (.int 1)) (eCall 29 (aCons (eVar 0) (aCons (eC (.int 1000003)) aNil)))) (aCons (eC (.int 1)) aNil))))) sNext))⟩
def T__law_part : FnT := ⟨"_law_part", "_law_part", defArgs (top 54), defBody (top 54), defScope (top 54), N__law_part, ["well"], F__law_part⟩
theorem c__law_part : cF G N__law_part 1 true (defScope (top 54)) (defBody (top 54)) = some F__law_part := by kernel_rfl
theorem o__law_part : T__law_part.Ok G ∧ BndT T__law_part := ⟨FnT.ok_of (T := T__law_part) ⟨rfl, rfl, rfl, by decide +kernel, rfl, by decide +kernel, by decide +kernel⟩ c__law_part rfl, fun _ _ _ _ _ _ us hl => match us, hl with | [_], _ => rfl⟩
abbrev N__law_walk : List Str := ["well", "many", "turn", "steps", "rows", "here", "there", "row"]
def F__law_walk : Fn := ⟨2, 8, true, (sSeq (sPar (aCons (eCall 37 (aCons (eVar 0) (aCons (eVar 1) aNil))) (aCons (eFz (lComp (iRange1 (eVar 1)) [2] (gName 2) tYes (eMu (lOp repL (eMu (lDisp (aCons (eTup (aCons (eC (.int 0)) (aCons (eC (.int 1)) aNil))) aNil))) (eVar 1))))) aNil)) [3, 4]) (sSeq (sFor (iRange1 (eCall 29 (aCons (eVar 0) (aCons (eOp mulA (eC (.int 2)) (eVar 1)) aNil)))) (gName 2) (sSeq (sAsg (eCall 29 (aCons (eVar 0) (aCons (eVar 1) aNil))) (gName 5)) (sSeq (sDrop (eMeth appD (eVar 3) (eTup (aCons (eVar 5) (aCons (eCall 29 (aCons (eVar 0) (aCons (eVar 1) aNil))) aNil))))) sNext))) (sSeq (sIf (tCmp .Eq (eVar 1) (eC (.int 1))) (sSeq (sDrop (eMeth appD (eVar 3) (eTup (aCons (eC (.int 0)) (aCons (eC (.int 0)) aNil))))) sNext) sNext) (sSeq (sFor (iSeq (eVar 3)) (gTup [(gName 5), (gName 6)]) (sSeq (sAsg (eCall 38 (aCons (eVar 0) aNil)) (gSub (eItem (eVar 4) (eVar 5)) (eVar 6))) sNext)) (sSeq (sRet (eB (b1 tupO) (aCons (eFz (lComp (iSeq (eVar 4)) [7] (gName 7) tYes (eCall 36 (aCons (eVar 7) aNil)))) aNil))) sNext)))))⟩
def T__law_walk : FnT := ⟨"_law_walk", "_law_walk", defArgs (top 55), defBody (top 55), defScope (top 55), N__law_walk, ["well", "many"], F__law_walk⟩
theorem c__law_walk : cF G N__law_walk 2 true (defScope (top 55)) (defBody (top 55)) = some F__law_walk := by kernel_rfl
theorem o__law_walk : T__law_walk.Ok G ∧ BndT T__law_walk := ⟨FnT.ok_of (T := T__law_walk) ⟨rfl, rfl, rfl, by decide +kernel, rfl, by decide +kernel, by decide +kernel⟩ c__law_walk rfl, fun _ _ _ _ _ _ us hl => match us, hl with | [_, _], _ => rfl⟩
abbrev N__law_shares : List Str := ["going", "last", "found", "many", "rows", "goes", "here", "there", "row", "gain", "at"]
def F__law_shares : Fn := ⟨1, 11, true, (sSeq (sAsg (eTup (aCons (eB (b1 lenO) (aCons (eVar 0) aNil)) (aCons (eFz (lComp (iSeq (eVar 0)) [8] (gName 8) tYes (eMu (lOf (eVar 8))))) aNil))) (gTup [(gName 3), (gName 4)])) (sSeq (sFor (iRange3 (eOp subD (eVar 3) (eC (.int 1))) (eC (.int 0)) (eUn negD (eC (.int 1)))) (gName 1) (sSeq (sAsg (eCall 35 (aCons (eSlice (eItem (eVar 4) (eVar 1)) oNone (oSome (eVar 1))) aNil)) (gName 5)) (sSeq (sFor (iRange1 (eVar 1)) (gName 6) (sSeq (sAsg (eCall 34 (aCons (eItem (eItem (eVar 4) (eVar 6)) (eVar 1)) (aCons (eVar 5) aNil))) (gSub (eItem (eVar 4) (eVar 6)) (eVar 1))) (sSeq (sFor (iRange1 (eVar 1)) (gName 7) (sSeq (sAsg (eCall 33 (aCons (eItem (eItem (eVar 4) (eVar 6)) (eVar 1)) (aCons (eItem (eItem (eVar 4) (eVar 1)) (eVar 7)) aNil))) (gName 9)) (sSeq (sAsg (eCall 32 (aCons (eItem (eItem (eVar 4) (eVar 6)) (eVar 7)) (aCons (eVar 9) aNil))) (gSub (eItem (eVar 4) (eVar 6)) (eVar 7))) sNext))) sNext))) sNext))) (sSeq (sAsg (eMu (lDisp (aCons (eTup (aCons (eC (.int 1)) (aCons (eC (.int 1)) aNil))) aNil))) (gName 2)) (sSeq (sFor (iRange2 (eC (.int 1)) (eVar 3)) (gName 1) (sSeq (sDrop (eMeth appD (eVar 2) (eCall 35 (aCons (eFz (lComp (iRange1 (eVar 1)) [10] (gName 10) tYes (eCall 33 (aCons (eItem (eVar 2) (eVar 10)) (aCons (eItem (eItem (eVar 4) (eVar 10)) (eVar 1)) aNil))))) aNil)))) sNext)) (sSeq (sRet (eCall 36 (aCons (eVar 2) aNil))) sNext)))))⟩
def T__law_shares : FnT := ⟨"_law_shares", "_law_shares", defArgs (top 56), defBody (top 56), defScope (top 56), N__law_shares, ["going"], F__law_shares⟩
theorem c__law_shares : cF G N__law_shares 1 true (defScope (top 56)) (defBody (top 56)) = some F__law_shares := by kernel_rfl
theorem o__law_shares : T__law_shares.Ok G ∧ BndT T__law_shares := ⟨FnT.ok_of (T := T__law_shares) ⟨rfl, rfl, rfl, by decide +kernel, rfl, by decide +kernel, by decide +kernel⟩ c__law_shares rfl, fun _ _ _ _ _ _ us hl => match us, hl with | [_], _ => rfl⟩
abbrev N__law_flows : List Str := ["going", "rest", "at", "row", "part"]
def F__law_flows : Fn := ⟨1, 5, true, (sSeq (sAsg (eCall 40 (aCons (eVar 0) aNil)) (gName 1)) (sSeq (sRet (eB (b1 tupO) (aCons (eFz (lComp (iEnum (eVar 0)) [2, 3] (gTup [(gName 2), (gName 3)]) tYes (eB (b1 tupO) (aCons (eFz (lComp (iSeq (eVar 3)) [4] (gName 4) tYes (eCall 33 (aCons (eItem (eVar 1) (eVar 2)) (aCons (eVar 4) aNil))))) aNil)))) aNil))) sNext))⟩
def T__law_flows : FnT := ⟨"_law_flows", "_law_flows", defArgs (top 57), defBody (top 57), defScope (top 57), N__law_flows, ["going"], F__law_flows⟩
theorem c__law_flows : cF G N__law_flows 1 true (defScope (top 57)) (defBody (top 57)) = some F__law_flows := by kernel_rfl
theorem o__law_flows : T__law_flows.Ok G ∧ BndT T__law_flows := ⟨FnT.ok_of (T := T__law_flows) ⟨rfl, rfl, rfl, by decide +kernel, rfl, by decide +kernel, by decide +kernel⟩ c__law_flows rfl, fun _ _ _ _ _ _ us hl => match us, hl with | [_], _ => rfl⟩
abbrev N__law_chance : List Str := ["going", "rest", "spots", "found", "here", "there"]
def F__law_chance : Fn := ⟨3, 6, true, (sSeq (sAsg (eItem (eVar 1) (eItem (eVar 2) (eC (.int 0)))) (gName 3)) (sSeq (sFor (iZip (eVar 2) (eSlice (eVar 2) (oSome (eC (.int 1))) oNone)) (gTup [(gName 4), (gName 5)]) (sSeq (sAsg (eCall 33 (aCons (eVar 3) (aCons (eItem (eItem (eVar 0) (eVar 4)) (eVar 5)) aNil))) (gName 3)) sNext)) (sSeq (sRet (eVar 3)) sNext)))⟩
def T__law_chance : FnT := ⟨"_law_chance", "_law_chance", defArgs (top 58), defBody (top 58), defScope (top 58), N__law_chance, ["going", "rest", "spots"], F__law_chance⟩
theorem c__law_chance : cF G N__law_chance 3 true (defScope (top 58)) (defBody (top 58)) = some F__law_chance := by kernel_rfl
theorem o__law_chance : T__law_chance.Ok G ∧ BndT T__law_chance := ⟨FnT.ok_of (T := T__law_chance) ⟨rfl, rfl, rfl, by decide +kernel, rfl, by decide +kernel, by decide +kernel⟩ c__law_chance rfl, fun _ _ _ _ _ _ us hl => match us, hl with | [_, _, _], _ => rfl⟩
abbrev N__law_spots : List Str := ["well", "going", "many", "found", "turn", "there", "at"]
def F__law_spots : Fn := ⟨2, 7, true, (sSeq (sAsg (eB (b1 lenO) (aCons (eVar 1) aNil)) (gName 2)) (sSeq (sAsg (eMu (lDisp (aCons (eCall 29 (aCons (eVar 0) (aCons (eVar 2) aNil))) aNil))) (gName 3)) (sSeq (sFor (iRange1 (eCall 29 (aCons (eVar 0) (aCons (eC (.int 7)) aNil)))) (gName 4) (sSeq (sAsg (eFz (lComp (iRange1 (eVar 2)) [6] (gName 6) (tCmp .Gt (eItem (eItem (eItem (eVar 1) (eItem (eVar 3) (eUn negD (eC (.int 1))))) (eVar 6)) (eC (.int 0))) (eC (.int 0))) (eVar 6))) (gName 5)) (sSeq (sDrop (eMeth appD (eVar 3) (eIf (tCmp .Gt (eCall 29 (aCons (eVar 0) (aCons (eC (.int 6)) aNil))) (eC (.int 0))) (eCall 30 (aCons (eVar 0) (aCons (eVar 5) aNil))) (eCall 29 (aCons (eVar 0) (aCons (eVar 2) aNil)))))) sNext))) (sSeq (sRet (eB (b1 tupO) (aCons (eVar 3) aNil))) sNext))))⟩
def T__law_spots : FnT := ⟨"_law_spots", "_law_spots", defArgs (top 59), defBody (top 59), defScope (top 59), N__law_spots, ["well", "going"], F__law_spots⟩
theorem c__law_spots : cF G N__law_spots 2 true (defScope (top 59)) (defBody (top 59)) = some F__law_spots := by kernel_rfl
theorem o__law_spots : T__law_spots.Ok G ∧ BndT T__law_spots := ⟨FnT.ok_of (T := T__law_spots) ⟨rfl, rfl, rfl, by decide +kernel, rfl, by decide +kernel, by decide +kernel⟩ c__law_spots rfl, fun _ _ _ _ _ _ us hl => match us, hl with | [_, _], _ => rfl⟩
abbrev N__law_right : List Str := ["well", "going", "told", "turn", "some", "due", "rest", "flows", "many", "here", "row", "spots", "longer", "each", "there"]
def F__law_right : Fn := ⟨1, 15, true, (sSeq (sAsg (eCall 39 (aCons (eVar 0) (aCons (eCall 30 (aCons (eVar 0) (aCons (eTup (aCons (eC (.int 3)) (aCons (eC (.int 2)) (aCons (eC (.int 4)) (aCons (eC (.int 3)) (aCons (eC (.int 4)) (aCons (eC (.int 1)) (aCons (eC (.int 5)) aNil)))))))) aNil))) aNil))) (gName 1)) (sSeq (sAsg (eTup (aCons (eCall 40 (aCons (eVar 1) aNil)) (aCons (eCall 41 (aCons (eVar 1) aNil)) (aCons (eB (b1 lenO) (aCons (eVar 1) aNil)) aNil)))) (gTup [(gName 6), (gName 7), (gName 8)])) (sSeq (sAsg (eCall 26 (aCons (eVar 1) aNil)) (gName 2)) (sSeq (sIf (tCmp .NotEq (eB (b1 reprO) (aCons (eFz (lDisp (aCons (eVar 2) (aCons (eCallP 26 [0] 0 1 aNil (aCons (eVar 1) aNil)) aNil)))) aNil)) (eB (b1 reprO) (aCons (eFz (lDisp (aCons (eVar 7) (aCons (eVar 7) aNil)))) aNil))) (sSeq (sRet (eC (.bl false))) sNext) sNext) (sSeq (sFor (iEnum (eVar 2)) (gTup [(gName 9), (gName 10)]) (sSeq (sIf (tCmp .NotEq (eCall 35 (aCons (eVar 10) aNil)) (eCall 35 (aCons (eFz (lComp (iSeq (eVar 2)) [13] (gName 13) tYes (eItem (eVar 13) (eVar 9)))) aNil))) (sSeq (sRet (eC (.bl false))) sNext) sNext) sNext)) (sSeq (sFor (iRange1 (eC (.int 3))) (gName 3) (sSeq (sAsg (eCall 43 (aCons (eVar 0) (aCons (eVar 1) aNil))) (gName 11)) (sSeq (sIf (tCmp .NotEq (eB (b1 reprO) (aCons (eCall 27 (aCons (eVar 1) (aCons (eVar 11) aNil))) aNil)) (eB (b1 reprO) (aCons (eCall 42 (aCons (eVar 1) (aCons (eVar 6) (aCons (eVar 11) aNil)))) aNil))) (sSeq (sRet (eC (.bl false))) sNext) sNext) sNext))) (sSeq (sAsg (eFz (lDisp (aCons (eTup aNil) aNil))) (gName 4)) (sSeq (sFor (iRange1 (eOp addA (eC (.int 1)) (eCall 29 (aCons (eVar 0) (aCons (eItem (eTup (aCons (eC (.int 3)) (aCons (eC (.int 3)) (aCons (eC (.int 3)) (aCons (eC (.int 2)) (aCons (eC (.int 1)) aNil)))))) (eOp subD (eVar 8) (eC (.int 1)))) aNil))))) (gName 3) (sSeq (sAsg (eFz (lDisp aNil)) (gName 12)) (sSeq (sFor (iSeq (eVar 4)) (gName 11) (sSeq (sAsg (eOp addA (eVar 12) (eFz (lComp (iRange1 (eVar 8)) [14] (gName 14) tYes (eOp addA (eVar 11) (eTup (aCons (eVar 14) aNil)))))) (gName 12)) sNext)) (sSeq (sAsg (eVar 12) (gName 4)) sNext)))) (sSeq (sAsg (eFz (lComp (iSeq (eVar 4)) [11] (gName 11) tYes (eCallP 27 [1, 0] 0 2 aNil (aCons (eVar 11) (aCons (eVar 1) aNil))))) (gName 2)) (sSeq (sAsg (eFz (lComp (iSeq (eVar 4)) [11] (gName 11) tYes (eCall 42 (aCons (eVar 1) (aCons (eVar 6) (aCons (eVar 11) aNil)))))) (gName 5)) (sSeq (sRet (eAnd (ofB (tCmp .Eq (eB (b1 reprO) (aCons (eVar 2) aNil)) (eB (b1 reprO) (aCons (eVar 5) aNil)))) (ofB (tCmp .Eq (eCall 35 (aCons (eVar 2) aNil)) (eTup (aCons (eC (.int 1)) (aCons (eC (.int 1)) aNil))))))) sNext)))))))))))⟩
def T__law_right : FnT := ⟨"_law_right", "_law_right", defArgs (top 60), defBody (top 60), defScope (top 60), N__law_right, ["well"], F__law_right⟩
theorem c__law_right : cF G N__law_right 1 true (defScope (top 60)) (defBody (top 60)) = some F__law_right := by kernel_rfl
theorem o__law_right : T__law_right.Ok G ∧ BndT T__law_right := ⟨FnT.ok_of (T := T__law_right) ⟨rfl, rfl, rfl, by decide +kernel, rfl, by decide +kernel, by decide +kernel⟩ c__law_right rfl, fun _ _ _ _ _ _ us hl => match us, hl with | [_], _ => rfl⟩
abbrev N_law : List Str := ["script", "well", "turn"]
def F_law : Fn := ⟨1, 3, true, (sSeq (sAsg (eCall 28 (aCons (eVar 0) (aCons (eC (.int 5)) aNil))) (gName 1)) (sSeq (sFor (iRange1 (eC (.int 2))) (gName 2) (sSeq (sIf (tNot (tTru (eCall 44 (aCons (eVar 1) aNil)))) (sSeq (sRet (eC (.bl false))) sNext) sNext) sNext)) (sSeq (sRet (eC (.bl true))) sNext)))⟩
def T_law : FnT := ⟨"law", "law", defArgs (top 61), defBody (top 61), defScope (top 61), N_law, ["script"], F_law⟩
theorem c_law : cF G N_law 1 true (defScope (top 61)) (defBody (top 61)) = some F_law := by kernel_rfl
theorem o_law : T_law.Ok G ∧ BndT T_law := ⟨FnT.ok_of (T := T_law) ⟨rfl, rfl, rfl, by decide +kernel, rfl, by decide +kernel, by decide +kernel⟩ c_law rfl, fun _ _ _ _ _ _ us hl => match us, hl with | [_], _ => rfl⟩
def Ts : List FnT := ([T_is_whole, T_is_between, T_is_tuple_of, T_is_ratio, T_is_row, T_ratio, T_plus, T_minus, T_times, T_over, T_total, T_scaled, T_is_table, T_steps_from, T_come_to, T_is_whole_table, T_is_walk_by, T_turned, T_less_row, T_answers_of, T_shares_by, T_flows_by, T_chance_along, T_seen_by, T_check_walk] : List (FnT)) ++ ([T_check_places, T_flows_of, T_seen_chance, T__law_well, T__law_pick, T__law_of, T__law_frac, T__law_plus, T__law_times, T__law_over, T__law_total, T__law_over_sum, T__law_ears, T__law_part, T__law_walk, T__law_shares, T__law_flows, T__law_chance, T__law_spots, T__law_right, T_law] : List (FnT))
theorem o_all : ∀ T ∈ Ts, T.Ok G ∧ BndT T := List.forall_mem_append.mpr ⟨(List.forall_mem_cons.mpr ⟨o_is_whole, List.forall_mem_cons.mpr ⟨o_is_between, List.forall_mem_cons.mpr ⟨o_is_tuple_of, List.forall_mem_cons.mpr ⟨o_is_ratio, List.forall_mem_cons.mpr ⟨o_is_row, List.forall_mem_cons.mpr ⟨o_ratio, List.forall_mem_cons.mpr ⟨o_plus, List.forall_mem_cons.mpr ⟨o_minus, List.forall_mem_cons.mpr ⟨o_times, List.forall_mem_cons.mpr ⟨o_over, List.forall_mem_cons.mpr ⟨o_total, List.forall_mem_cons.mpr ⟨o_scaled, List.forall_mem_cons.mpr ⟨o_is_table, List.forall_mem_cons.mpr ⟨o_steps_from, List.forall_mem_cons.mpr ⟨o_come_to, List.forall_mem_cons.mpr ⟨o_is_whole_table, List.forall_mem_cons.mpr ⟨o_is_walk_by, List.forall_mem_cons.mpr ⟨o_turned, List.forall_mem_cons.mpr ⟨o_less_row, List.forall_mem_cons.mpr ⟨o_answers_of, List.forall_mem_cons.mpr ⟨o_shares_by, List.forall_mem_cons.mpr ⟨o_flows_by, List.forall_mem_cons.mpr ⟨o_chance_along, List.forall_mem_cons.mpr ⟨o_seen_by, List.forall_mem_cons.mpr ⟨o_check_walk, fun _ h => nomatch h⟩⟩⟩⟩⟩⟩⟩⟩⟩⟩⟩⟩⟩⟩⟩⟩⟩⟩⟩⟩⟩⟩⟩⟩⟩), List.forall_mem_cons.mpr ⟨o_check_places, List.forall_mem_cons.mpr ⟨o_flows_of, List.forall_mem_cons.mpr ⟨o_seen_chance, List.forall_mem_cons.mpr ⟨o__law_well, List.forall_mem_cons.mpr ⟨o__law_pick, List.forall_mem_cons.mpr ⟨o__law_of, List.forall_mem_cons.mpr ⟨o__law_frac, List.forall_mem_cons.mpr ⟨o__law_plus, List.forall_mem_cons.mpr ⟨o__law_times, List.forall_mem_cons.mpr ⟨o__law_over, List.forall_mem_cons.mpr ⟨o__law_total, List.forall_mem_cons.mpr ⟨o__law_over_sum, List.forall_mem_cons.mpr ⟨o__law_ears, List.forall_mem_cons.mpr ⟨o__law_part, List.forall_mem_cons.mpr ⟨o__law_walk, List.forall_mem_cons.mpr ⟨o__law_shares, List.forall_mem_cons.mpr ⟨o__law_flows, List.forall_mem_cons.mpr ⟨o__law_chance, List.forall_mem_cons.mpr ⟨o__law_spots, List.forall_mem_cons.mpr ⟨o__law_right, List.forall_mem_cons.mpr ⟨o_law, fun _ h => nomatch h⟩⟩⟩⟩⟩⟩⟩⟩⟩⟩⟩⟩⟩⟩⟩⟩⟩⟩⟩⟩⟩⟩
theorem len_all : G.fns = Ts.map fun T => (T.name, T.ps) := by kernel_rfl
theorem k_all : ∀ (i : Nat) (T : FnT), Ts[i]? = some T → ∀ (m : Nat) (ks : List Str) (pm : List Nat), (i, m, ks) ∈ G.kws → kwPerm T.ps m ks = some pm → KbT T m ks pm := by
  intro i T hi m ks pm hm hp
  rcases List.mem_cons.mp hm with e | hm
  · cases e
    have e1 : T = T_flows_of := Option.some.inj (hi.symm.trans rfl)
    subst e1
    have e2 : pm = [0] := Option.some.inj (hp.symm.trans (by decide))
    subst e2
    exact fun _ _ _ _ _ _ us ws h1 h2 => match us, ws, h1, h2 with | [], [_], _, _ => rfl
  rcases List.mem_cons.mp hm with e | hm
  · cases e
    have e1 : T = T_seen_chance := Option.some.inj (hi.symm.trans rfl)
    subst e1
    have e2 : pm = [1, 0] := Option.some.inj (hp.symm.trans (by decide))
    subst e2
    exact fun _ _ _ _ _ _ us ws h1 h2 => match us, ws, h1, h2 with | [], [_, _], _, _ => rfl
  cases hm
abbrev R : PySem.W.OpenRow := PySem.W.OpenLaw.row PySem.Challenge.rw_backwalks_k05_flows_and_chances_of_rows
def ex : PySem.W.Frag → Bool := exB G.cst (hasG G.blt)
abbrev hk : PySem.W.Hook := hookC 4 (faOfT Ts G.blt) (fnOfT Ts) ex
def ob (s : PySem.W.SharedT) : He.AlD × Bool := obsC 4 (faOfT Ts G.blt) (fnOfT Ts) ex (HandSHeadRun.getT s)
theorem ob_eq (s : PySem.W.SharedT) : ob s = hk.obs s.abs := obsC_eq (HandSHeadRun.getT_eq s)
def loose : List PySem.Str := (["WalkError", "InvalidWalk", "InvalidPlaces", "is_whole", "is_between", "is_tuple_of", "ZERO", "ONE", "is_ratio", "is_row", "ratio", "plus", "minus", "times", "over", "total", "scaled", "MOST_PLACES", "is_table", "steps_from", "come_to", "is_whole_table", "is_walk_by", "turned", "less_row", "answers_of", "shares_by", "flows_by", "chance_along", "seen_by"] : List (PySem.Str)) ++ (["check_walk", "check_places", "flows_of", "seen_chance", "_law_well", "_law_pick", "_law_of", "_law_frac", "_law_plus", "_law_times", "_law_over", "_law_total", "_law_over_sum", "_law_ears", "_law_part", "_law_walk", "_law_shares", "_law_flows", "_law_chance", "_law_spots", "_law_right"] : List (PySem.Str))
theorem run (w : World) : HandSHeadRun.RunEqI R (PySem.W.view R.prog [0, 61]) hk ob 4000 loose w := by
  unfold HandSHeadRun.RunEqI
  kernel_rfl
end Lw

/-! K1: what a mirror computes, as a goal. -/
namespace MI
open PySem L2
section
variable {α β : Type}
def Ok (x : M α) (S : Sto) (Q : α → Sto → Prop) : Prop := match x S with
  | .ok a S' => Q a S'
  | _ => False
theorem ok_bind (x : M α) (f : α → M β) (S : Sto) (Q : β → Sto → Prop) : Ok (M.bind x f) S Q = Ok x S fun a S' => Ok (f a) S' Q := by
  unfold Ok M.bind
  cases x S <;> rfl
theorem ok_pure (a : α) (S : Sto) (Q : α → Sto → Prop) : Ok (M.pure a) S Q = Q a S := rfl
theorem ok_bad (S : Sto) (Q : α → Sto → Prop) : Ok (bad : M α) S Q = False := rfl
theorem ok_chk (b : Bool) (S : Sto) (Q : Unit → Sto → Prop) : Ok (chk b) S Q = (b = true ∧ Q () S) := by
  cases b
  · simp [Ok, chk]
  · simp [Ok, chk]
theorem ok_opt (f : Sto → Option α) (S : Sto) (Q : α → Sto → Prop) : Ok (opt f) S Q = ∃ a, f S = some a ∧ Q a S := by
  unfold Ok opt
  cases f S with
  | none => simp
  | some a => simp
theorem ok_ofO (f : Option α) (S : Sto) (Q : α → Sto → Prop) : Ok (ofO f) S Q = ∃ a, f = some a ∧ Q a S := by
  cases f with
  | none => simp [Ok, ofO, bad]
  | some a => simp [Ok, ofO, M.pure]
theorem ok_calm (x : M α) (S : Sto) (Q : α → Sto → Prop) : Ok (calm x) S Q = Ok x S Q := by
  unfold Ok calm
  cases x S <;> rfl
theorem Ok.mono {x : M α} {S : Sto} {Q Q' : α → Sto → Prop} (h : Ok x S Q) (i : ∀ a S', Q a S' → Q' a S') : Ok x S Q' := by
  unfold Ok at *
  cases e : x S with
  | ok a S' => rw [e] at h; exact i a S' h
  | exc _ _ => rw [e] at h; exact h
  | bad => rw [e] at h; exact h
theorem Ok.get {x : M α} {S : Sto} {Q : α → Sto → Prop} (h : Ok x S Q) : ∃ a S', x S = .ok a S' ∧ Q a S' := by
  unfold Ok at h
  cases e : x S with
  | ok a S' => rw [e] at h; exact ⟨a, S', rfl, h⟩
  | exc _ _ => rw [e] at h; exact h.elim
  | bad => rw [e] at h; exact h.elim
theorem Ok.of {x : M α} {S S' : Sto} {a : α} {Q : α → Sto → Prop} (h : x S = .ok a S') (q : Q a S') : Ok x S Q := by
  unfold Ok
  rw [h]
  exact q
/-- what a run gives is one thing -/
theorem ok_of_get {x : M α} {S : Sto} {a : α} (h : Ok x S fun b S' => b = a ∧ S' = S) (Q : α → Sto → Prop) : Ok x S Q = Q a S := by
  obtain ⟨b, S', e, rfl, rfl⟩ := h.get
  unfold Ok
  rw [e]
theorem ok_if (t : Bool) (x y : M α) (S : Sto) (Q : α → Sto → Prop) : Ok (match t with | true => x | false => y) S Q = (match t with | true => Ok x S Q | false => Ok y S Q) := by cases t <;> rfl
end
theorem ok_run {f : Fn} {c : Call} {args : List D} {S : Sto} {Q : D → Sto → Prop} : Ok (runFn f c args) S Q = (args.length = f.np ∧ Ok (f.body c (startE f.ns args)) S fun fl S' => match fl with
    | .nx _ => Ok (finish f.fz S.length .non) S' Q
    | .rt d => Ok (finish f.fz S.length d) S' Q
    | _ => False) := by
  unfold Ok runFn
  cases e : decide (args.length = f.np) with
  | false =>
    have : ¬ args.length = f.np := of_decide_eq_false e
    simp [this]
  | true =>
    have : args.length = f.np := of_decide_eq_true e
    simp only [this, true_and]
    cases f.body c (startE f.ns args) S with
    | ok fl S' => cases fl <;> rfl
    | exc _ _ => rfl
    | bad => rfl
theorem ok_call {fs : List Fn} {k i : Nat} {f : Fn} (h : fs[i]? = some f) (args : List D) (S : Sto) (Q : D → Sto → Prop) : Ok (callF fs (k + 1) i args) S Q = Ok (runFn f (callF fs k) args) S Q := by
  show Ok (match fs[i]? with | some f => runFn f (callF fs k) args | none => bad) S Q = _
  rw [h]
theorem ok_finF (base : Nat) (d : D) (S : Sto) (Q : D → Sto → Prop) : Ok (finish false base d) S Q = Q d S := rfl
theorem ok_finT (base : Nat) (d : D) (S : Sto) (Q : D → Sto → Prop) : Ok (finish true base d) S Q = ∃ d', fzD S base d = some d' ∧ Q d' (S.take base) := by
  unfold Ok finish
  cases fzD S base d with
  | none => simp
  | some a => simp
/-- no store: a call at hand -/
theorem fz_bl (S : Sto) (n : Nat) (b : Bool) : fzD S n (.bl b) = some (.bl b) := rfl
theorem fz_int (S : Sto) (n : Nat) (b : Int) : fzD S n (.int b) = some (.int b) := rfl
theorem take_self (S : Sto) : S.take S.length = S := List.take_length
mutual
theorem fz_pure (S : Sto) (n : Nat) : ∀ d : D, pureD d = true → fzD S n d = some d
  | .non, _ | .bl _, _ | .int _, _ | .str _, _ => rfl
  | .tup xs, h => by rw [fzD, fz_pures S n xs h]; rfl
  | .lst xs, h => by rw [fzD, fz_pures S n xs h]; rfl
  | .dct kvs, h => by
    have h : pureK kvs = true := h
    rw [fzD, h]; rfl
  | .loc _, h | .scr _, h => by cases h
theorem fz_pures (S : Sto) (n : Nat) : ∀ ds : List D, pureL ds = true → fzL S n ds = some ds
  | [], _ => rfl
  | d :: ds, h => by
    have h : (pureD d && pureL ds) = true := h
    obtain ⟨h1, h2⟩ := Bool.and_eq_true_iff.mp h
    rw [fzL, fz_pure S n d h1, fz_pures S n ds h2]
    rfl
end
/-! ### comprehensions -/
theorem ok_compFix {g : MG} {t : MT} {e : ME} {c : Call} {ρ : Env} (h : D → Option D) : ∀ (xs acc : List D) (S : Sto) (Q : List D → Sto → Prop),
    (∀ x ∈ xs, Ok (g c x ρ) S fun ρ2 S1 => Ok (t c ρ2) S1 fun b S2 => match b with
      | true => Ok (e c ρ2) S2 fun y S3 => h x = some y ∧ S3 = S
      | false => h x = none ∧ S2 = S) → acc.length + xs.length ≤ sizeLine → Q (acc ++ xs.filterMap h) S → Ok (compFix g t e c ρ xs acc) S Q
  | [], acc, S, Q, _, _, q => by
    rw [compFix, ok_pure]
    simpa using q
  | x :: xs, acc, S, Q, hx, hl, q => by
    rw [compFix, ok_bind, compTurn, ok_calm, ok_bind]
    have h1 := hx x List.mem_cons_self
    refine h1.mono fun ρ2 S1 h2 => ?_
    rw [ok_bind]
    refine h2.mono fun b S2 h3 => ?_
    have hl : acc.length + (xs.length + 1) ≤ sizeLine := hl
    cases b with
    | true =>
      show Ok (M.bind (e c ρ2) _) S2 _
      rw [ok_bind]
      refine Ok.mono h3 fun y S3 ⟨e1, e2⟩ => ?_
      rw [ok_bind, ok_chk, ok_pure]
      refine ⟨by simp; omega, ?_⟩
      subst e2
      refine ok_compFix h xs _ S3 Q (fun z hz => hx z (List.mem_cons_of_mem _ hz)) (by simp; omega) ?_
      rw [List.filterMap_cons_some e1] at q
      simpa using q
    | false =>
      obtain ⟨e1, e2⟩ := h3
      show Ok (M.pure acc) S2 _
      rw [ok_pure, e2]
      refine ok_compFix h xs acc S Q (fun z hz => hx z (List.mem_cons_of_mem _ hz)) (by omega) ?_
      rw [List.filterMap_cons_none e1] at q
      exact q
/-- a for loop's invariant -/
theorem ok_forFix {g : MG} {b : MS} {c : Call} (I : List D → Env → Sto → Prop) {Q : Fl → Sto → Prop} : ∀ (xs : List D) (ρ : Env) (S : Sto), I xs ρ S →
    (∀ x xs ρ S, I (x :: xs) ρ S → Ok (g c x ρ) S fun ρ1 S1 => Ok (b c ρ1) S1 fun f S2 => match f with
      | .nx ρ2 => I xs ρ2 S2
      | .ct ρ2 => I xs ρ2 S2
      | .bk ρ2 => Q (.nx ρ2) S2
      | .rt d => Q (.rt d) S2) → (∀ ρ S, I [] ρ S → Q (.nx ρ) S) → Ok (forFix g b c xs ρ) S Q
  | [], ρ, S, i, _, q => by
    rw [forFix, ok_pure]
    exact q ρ S i
  | x :: xs, ρ, S, i, st, q => by
    rw [forFix, ok_bind, forTurn, ok_bind]
    refine (st x xs ρ S i).mono fun ρ1 S1 h1 => h1.mono fun f S2 h2 => ?_
    cases f with
    | nx ρ2 => exact ok_forFix I xs ρ2 S2 h2 st q
    | ct ρ2 => exact ok_forFix I xs ρ2 S2 h2 st q
    | bk ρ2 => exact h2
    | rt d => exact h2
theorem ok_while {t : MT} {b : MS} {c : Call} (I : Nat → Env → Sto → Prop) {Q : Fl → Sto → Prop}
    (st : ∀ n ρ S, I n ρ S → Ok (t c ρ) S fun r S1 => match r with
      | false => Q (.nx ρ) S1
      | true => Ok (b c ρ) S1 fun f S2 => match f with
        | .nx ρ2 => ∃ m, m < n ∧ I m ρ2 S2
        | .ct ρ2 => ∃ m, m < n ∧ I m ρ2 S2
        | .bk ρ2 => Q (.nx ρ2) S2
        | .rt d => Q (.rt d) S2) : ∀ (k n : Nat) (ρ : Env) (S : Sto), n < k → I n ρ S → Ok (whileN t b c k ρ) S Q
  | 0, n, ρ, S, h, _ => by omega
  | k + 1, n, ρ, S, h, i => by
    rw [whileN, ok_bind]
    refine (st n ρ S i).mono fun r S1 h1 => ?_
    cases r with
    | false => exact h1
    | true =>
      show Ok (M.bind (b c ρ) _) S1 _
      rw [ok_bind]
      refine Ok.mono h1 fun f S2 h2 => ?_
      cases f with
      | nx ρ2 =>
        obtain ⟨m, l, i⟩ := h2
        exact ok_while I st k m ρ2 S2 (by omega) i
      | ct ρ2 =>
        obtain ⟨m, l, i⟩ := h2
        exact ok_while I st k m ρ2 S2 (by omega) i
      | bk ρ2 => exact h2
      | rt d => exact h2
/-! ### one step at a time -/
section
variable {α β : Type}
theorem s_bind {x : M α} {f : α → M β} {S : Sto} {Q : β → Sto → Prop} (h : Ok x S fun a S' => Ok (f a) S' Q) : Ok (M.bind x f) S Q := by rw [ok_bind]; exact h
theorem s_pure {a : α} {S : Sto} {Q : α → Sto → Prop} (h : Q a S) : Ok (M.pure a) S Q := h
theorem s_chk {b : Bool} {S : Sto} {Q : Unit → Sto → Prop} (h : b = true) (q : Q () S) : Ok (chk b) S Q := by rw [ok_chk]; exact ⟨h, q⟩
theorem s_opt {f : Sto → Option α} {S : Sto} {Q : α → Sto → Prop} {a : α} (h : f S = some a) (q : Q a S) : Ok (opt f) S Q := by rw [ok_opt]; exact ⟨a, h, q⟩
theorem s_ofO {f : Option α} {S : Sto} {Q : α → Sto → Prop} {a : α} (h : f = some a) (q : Q a S) : Ok (ofO f) S Q := by rw [ok_ofO]; exact ⟨a, h, q⟩
theorem s_calm {x : M α} {S : Sto} {Q : α → Sto → Prop} (h : Ok x S Q) : Ok (calm x) S Q := by rw [ok_calm]; exact h
theorem s_if {b : Bool} {x y : M α} {S : Sto} {Q : α → Sto → Prop} (h1 : b = true → Ok x S Q) (h2 : b = false → Ok y S Q) : Ok (match b with | true => x | false => y) S Q := by
  cases b
  · exact h2 rfl
  · exact h1 rfl
end
theorem s_var {c : Call} {ρ : Env} {i : Nat} {d : D} {S : Sto} {Q : D → Sto → Prop} (h : ρ[i]? = some (some d)) (q : Q d S) : Ok (eVar i c ρ) S Q := by
  unfold eVar
  rw [h]
  exact q
theorem s_call {fs : List Fn} {k i : Nat} {f : Fn} {args : List D} {S : Sto} {Q : D → Sto → Prop} (h : fs[i]? = some f) (hl : args.length = f.np) (q : Ok (f.body (callF fs k) (startE f.ns args)) S fun fl S' => match fl with
    | .nx _ => Ok (finish f.fz S.length .non) S' Q
    | .rt d => Ok (finish f.fz S.length d) S' Q
    | _ => False) : Ok (callF fs (k + 1) i args) S Q := by
  rw [ok_call h, ok_run]
  exact ⟨hl, q⟩
theorem s_fin {d : D} {S : Sto} {Q : D → Sto → Prop} (hd : pureD d = true) (q : Q d S) : Ok (finish true S.length d) S Q := by
  rw [ok_finT, fz_pure _ _ _ hd, take_self]
  exact ⟨d, rfl, q⟩
theorem s_fits {n : Nat} {P : Prop} (h : fits n = true) (p : P) : fits n = true ∧ P := ⟨h, p⟩
theorem s_some {α : Type} {x : Option α} {a : α} {P : α → Prop} (h : x = some a) (p : P a) : ∃ b, x = some b ∧ P b := ⟨a, h, p⟩
theorem s_gcd {a b : Int} {S : Sto} {Q : D → Sto → Prop} (q : Q (.int ((Nat.gcd a.natAbs b.natAbs : Nat) : Int)) S) : Ok (gcdD [.int a, .int b]) S Q := q
theorem s_add {a b : Int} {S : Sto} {Q : D → Sto → Prop} (q : Q (.int (a + b)) S) : Ok (addA (.int a) (.int b)) S Q := q
theorem s_sub {a b : Int} {S : Sto} {Q : D → Sto → Prop} (q : Q (.int (a - b)) S) : Ok (subD (.int a) (.int b)) S Q := q
theorem s_neg {a : Int} {S : Sto} {Q : D → Sto → Prop} (q : Q (.int (-a)) S) : Ok (negD (.int a)) S Q := q
theorem s_mul {a b : Int} {S : Sto} {Q : D → Sto → Prop} (h : mulOk a b = true) (q : Q (.int (a * b)) S) : Ok (mulA (.int a) (.int b)) S Q := by
  show Ok (M.bind (chk (mulOk a b)) fun _ => M.pure (.int (a * b))) S Q
  exact s_bind (s_chk h q)
theorem s_mod {a b : Int} {S : Sto} {Q : D → Sto → Prop} (h : b ≠ 0) (q : Q (.int (a.fmod b)) S) : Ok (modD (.int a) (.int b)) S Q := by
  show Ok (M.bind (chk (decide (b ≠ 0))) fun _ => M.pure (.int (a.fmod b))) S Q
  exact s_bind (s_chk (decide_eq_true h) q)
theorem s_div {a b : Int} {S : Sto} {Q : D → Sto → Prop} (h : divOk a b = true) (q : Q (.int (a.fdiv b)) S) : Ok (fdivD (.int a) (.int b)) S Q := by
  show Ok (M.bind (chk (divOk a b)) fun _ => M.pure (.int (a.fdiv b))) S Q
  exact s_bind (s_chk h q)
theorem divOk_of {a b : Int} (h : b ≠ 0) (l : b.natAbs < 2 ^ 9000) : divOk a b = true := by
  unfold divOk Builtin.divisionGoesByPylong
  have h3 : b.natAbs.log2 < 9000 := (Nat.log2_lt (by omega)).mpr l
  simp [h]
  exact Or.inl (by omega)
theorem mulOk_of {a b : Int} (h : a.natAbs < 2 ^ 10000) (l : b.natAbs < 2 ^ 10000) : mulOk a b = true := by
  unfold mulOk
  have lg : ∀ n : Nat, n < 2 ^ 10000 → n.log2 < 10000 := fun n hn => by
    by_cases z : n = 0
    · subst z; decide
    · exact (Nat.log2_lt z).mpr hn
  have := lg _ h
  have := lg _ l
  exact decide_eq_true (by omega)
end MI

namespace MI
open PySem
/-! ### one lemma for each combinator (printed by genw.py) -/
section
variable {f g u v : ME} {t t2 : MT} {as : MA} {c : Call} {ρ : Env} {S : Sto}
theorem w_c {d : D} {c : Call} {ρ : Env} {S : Sto} {Q : D → Sto → Prop} (h : Q d S) : Ok (eC d c ρ) S Q := by
  simp only [eC, ok_bind, ok_pure, ok_ofO, ok_chk, ok_opt]
  exact h
theorem w_op {o : D → D → M D} {f g : ME} {c : Call} {ρ : Env} {S : Sto} {Q : D → Sto → Prop} (h : Ok (f c ρ) S fun a S1 => Ok (g c ρ) S1 fun b S2 => Ok (o a b) S2 Q) : Ok (eOp o f g c ρ) S Q := by
  simp only [eOp, ok_bind, ok_pure, ok_ofO, ok_chk, ok_opt]
  exact h
theorem w_un {o : D → M D} {f : ME} {c : Call} {ρ : Env} {S : Sto} {Q : D → Sto → Prop} (h : Ok (f c ρ) S fun a S1 => Ok (o a) S1 Q) : Ok (eUn o f c ρ) S Q := by
  simp only [eUn, ok_bind, ok_pure, ok_ofO, ok_chk, ok_opt]
  exact h
theorem w_isi {y : Ty} {f : ME} {c : Call} {ρ : Env} {S : Sto} {Q : D → Sto → Prop} (h : Ok (f c ρ) S fun a S1 => Ok (isiD y a) S1 Q) : Ok (eIsi f y c ρ) S Q := by
  simp only [eIsi, eUn, ok_bind, ok_pure, ok_ofO, ok_chk, ok_opt]
  exact h
theorem w_meth {o : D → D → M D} {f g : ME} {c : Call} {ρ : Env} {S : Sto} {Q : D → Sto → Prop} (h : Ok (f c ρ) S fun a S1 => Ok (litems a) S1 fun _ S2 => Ok (g c ρ) S2 fun b S3 => Ok (o a b) S3 Q) : Ok (eMeth o f g c ρ) S Q := by
  simp only [eMeth, ok_bind, ok_pure, ok_ofO, ok_chk, ok_opt]
  exact h
theorem w_ofB  {Q : D → Sto → Prop} (h : Ok (t c ρ) S fun b S1 => Q (.bl b) S1) : Ok (ofB t c ρ) S Q := by
  simp only [ofB, ok_bind, ok_pure, ok_ofO, ok_chk, ok_opt]
  exact h
theorem w_cmp {o : CmpOp} {f g : ME} {c : Call} {ρ : Env} {S : Sto} {Q : Bool → Sto → Prop} (h : Ok (f c ρ) S fun a S1 => Ok (g c ρ) S1 fun b S2 => Ok (cmpD o a b) S2 Q) : Ok (tCmp o f g c ρ) S Q := by
  simp only [tCmp, ok_bind, ok_pure, ok_ofO, ok_chk, ok_opt]
  exact h
theorem w_chain {o o2 : CmpOp} {f g u : ME} {c : Call} {ρ : Env} {S : Sto} {Q : Bool → Sto → Prop} (h : Ok (f c ρ) S fun a S1 => Ok (g c ρ) S1 fun b S2 => Ok (cmpD o a b) S2 fun r S3 => match r with | true => Ok (u c ρ) S3 fun d S4 => Ok (cmpD o2 b d) S4 Q | false => Q false S3) : Ok (tChain o o2 f g u c ρ) S Q := by
  simp only [tChain, ok_bind, ok_pure, ok_ofO, ok_chk, ok_opt]
  exact h.mono fun d S1 h => h.mono fun b S2 h => h.mono fun r S3 h => by cases r <;> simp only [ok_bind, ok_pure] <;> exact h
theorem w_tru  {Q : Bool → Sto → Prop} (h : Ok (f c ρ) S fun d S1 => ∃ b, truthO S1 d = some b ∧ Q b S1) : Ok (tTru f c ρ) S Q := by
  simp only [tTru, ok_bind, ok_pure, ok_ofO, ok_chk, ok_opt]
  exact h
theorem w_tand  {Q : Bool → Sto → Prop} (h : Ok (t c ρ) S fun b S1 => match b with | true => Ok (t2 c ρ) S1 Q | false => Q false S1) : Ok (tAnd t t2 c ρ) S Q := by
  simp only [tAnd, ok_bind, ok_pure, ok_ofO, ok_chk, ok_opt]
  exact h.mono fun b S1 h => by cases b <;> exact h
theorem w_tor  {Q : Bool → Sto → Prop} (h : Ok (t c ρ) S fun b S1 => match b with | true => Q true S1 | false => Ok (t2 c ρ) S1 Q) : Ok (tOr t t2 c ρ) S Q := by
  simp only [tOr, ok_bind, ok_pure, ok_ofO, ok_chk, ok_opt]
  exact h.mono fun b S1 h => by cases b <;> exact h
theorem w_tnot  {Q : Bool → Sto → Prop} (h : Ok (t c ρ) S fun b S1 => Q (!b) S1) : Ok (tNot t c ρ) S Q := by
  simp only [tNot, ok_bind, ok_pure, ok_ofO, ok_chk, ok_opt]
  exact h
theorem w_tyes {c : Call} {ρ : Env} {S : Sto} {Q : Bool → Sto → Prop} (h : Q true S) : Ok (tYes c ρ) S Q := by
  simp only [tYes, ok_bind, ok_pure, ok_ofO, ok_chk, ok_opt]
  exact h
theorem w_and  {Q : D → Sto → Prop} (h : Ok (f c ρ) S fun d S1 => Ok (isBl d) S1 fun b S2 => match b with | true => Ok (g c ρ) S2 Q | false => Q (.bl false) S2) : Ok (eAnd f g c ρ) S Q := by
  simp only [eAnd, ok_bind, ok_pure, ok_ofO, ok_chk, ok_opt]
  exact h.mono fun d S1 h => h.mono fun b S2 h => by cases b <;> exact h
theorem w_or  {Q : D → Sto → Prop} (h : Ok (f c ρ) S fun d S1 => Ok (isBl d) S1 fun b S2 => match b with | true => Q (.bl true) S2 | false => Ok (g c ρ) S2 Q) : Ok (eOr f g c ρ) S Q := by
  simp only [eOr, ok_bind, ok_pure, ok_ofO, ok_chk, ok_opt]
  exact h.mono fun d S1 h => h.mono fun b S2 h => by cases b <;> exact h
theorem w_not  {Q : D → Sto → Prop} (h : Ok (f c ρ) S fun d S1 => Ok (isBl d) S1 fun b S2 => Q (.bl !b) S2) : Ok (eNot f c ρ) S Q := by
  simp only [eNot, ok_bind, ok_pure, ok_ofO, ok_chk, ok_opt]
  exact h
theorem w_isbl {b : Bool} {S : Sto} {Q : Bool → Sto → Prop} (h : Q b S) : Ok (isBl (.bl b)) S Q := by
  simp only [isBl, ok_bind, ok_pure, ok_ofO, ok_chk, ok_opt]
  exact h
theorem w_if  {Q : D → Sto → Prop} (h : Ok (t c ρ) S fun b S1 => match b with | true => Ok (f c ρ) S1 Q | false => Ok (g c ρ) S1 Q) : Ok (eIf t f g c ρ) S Q := by
  simp only [eIf, ok_bind, ok_pure, ok_ofO, ok_chk, ok_opt]
  exact h.mono fun b S1 h => by cases b <;> exact h
theorem w_nil {c : Call} {ρ : Env} {S : Sto} {Q : List D → Sto → Prop} (h : Q [] S) : Ok (aNil c ρ) S Q := by
  simp only [aNil, ok_bind, ok_pure, ok_ofO, ok_chk, ok_opt]
  exact h
theorem w_cons  {Q : List D → Sto → Prop} (h : Ok (f c ρ) S fun a S1 => Ok (as c ρ) S1 fun ds S2 => Q (a :: ds) S2) : Ok (aCons f as c ρ) S Q := by
  simp only [aCons, ok_bind, ok_pure, ok_ofO, ok_chk, ok_opt]
  exact h
theorem w_tup  {Q : D → Sto → Prop} (h : Ok (as c ρ) S fun ds S1 => fits ds.length = true ∧ Q (.tup ds) S1) : Ok (eTup as c ρ) S Q := by
  simp only [eTup, ok_bind, ok_pure, ok_ofO, ok_chk, ok_opt]
  exact h
theorem w_fz  {Q : D → Sto → Prop} (h : Ok (as c ρ) S fun ds S1 => Q (.lst ds) S1) : Ok (eFz as c ρ) S Q := by
  simp only [eFz, ok_bind, ok_pure, ok_ofO, ok_chk, ok_opt]
  exact h
theorem w_mu  {Q : D → Sto → Prop} (h : Ok (as c ρ) S fun ds S1 => Ok (newL ds) S1 Q) : Ok (eMu as c ρ) S Q := by
  simp only [eMu, ok_bind, ok_pure, ok_ofO, ok_chk, ok_opt]
  exact h
theorem w_disp  {Q : List D → Sto → Prop} (h : Ok (as c ρ) S fun ds S1 => fits ds.length = true ∧ Q ds S1) : Ok (lDisp as c ρ) S Q := by
  simp only [lDisp, ok_bind, ok_pure, ok_ofO, ok_chk, ok_opt]
  exact h
theorem w_lop {o : D → D → M (List D)} {f g : ME} {c : Call} {ρ : Env} {S : Sto} {Q : List D → Sto → Prop} (h : Ok (f c ρ) S fun a S1 => Ok (g c ρ) S1 fun b S2 => Ok (o a b) S2 Q) : Ok (lOp o f g c ρ) S Q := by
  simp only [lOp, ok_bind, ok_pure, ok_ofO, ok_chk, ok_opt]
  exact h
theorem w_lof  {Q : List D → Sto → Prop} (h : Ok (f c ρ) S fun a S1 => Ok (items a) S1 Q) : Ok (lOf f c ρ) S Q := by
  simp only [lOf, ok_bind, ok_pure, ok_ofO, ok_chk, ok_opt]
  exact h
theorem w_item  {Q : D → Sto → Prop} (h : Ok (f c ρ) S fun a S1 => Ok (g c ρ) S1 fun b S2 => Ok (MI.getItem a b) S2 Q) : Ok (eItem f g c ρ) S Q := by
  simp only [eItem, ok_bind, ok_pure, ok_ofO, ok_chk, ok_opt]
  exact h
theorem w_call {i : Nat} {as : MA} {c : Call} {ρ : Env} {S : Sto} {Q : D → Sto → Prop} (h : Ok (as c ρ) S fun ds S1 => Ok (c i ds) S1 Q) : Ok (eCall i as c ρ) S Q := by
  simp only [eCall, ok_bind, ok_pure, ok_ofO, ok_chk, ok_opt]
  exact h
theorem w_b {o : List D → M D} {as : MA} {c : Call} {ρ : Env} {S : Sto} {Q : D → Sto → Prop} (h : Ok (as c ρ) S fun ds S1 => Ok (o ds) S1 Q) : Ok (eB o as c ρ) S Q := by
  simp only [eB, ok_bind, ok_pure, ok_ofO, ok_chk, ok_opt]
  exact h
theorem w_b1 {o : Sto → D → Option D} {d : D} {S : Sto} {Q : D → Sto → Prop} (h : ∃ r, o S d = some r ∧ Q r S) : Ok (b1 o [d]) S Q := by
  simp only [b1, ok_bind, ok_pure, ok_ofO, ok_chk, ok_opt]
  exact h
theorem w_getItem {a b : D} {S : Sto} {Q : D → Sto → Prop} (h : ∃ d, itemO S a b = some d ∧ Q d S) : Ok (MI.getItem a b) S Q := by
  simp only [MI.getItem, ok_bind, ok_pure, ok_ofO, ok_chk, ok_opt]
  exact h
theorem w_cmpD {o : CmpOp} {a b : D} {S : Sto} {Q : Bool → Sto → Prop} (h : ∃ r, cmpO o S a b = some r ∧ Q r S) : Ok (cmpD o a b) S Q := by
  simp only [cmpD, ok_bind, ok_pure, ok_ofO, ok_chk, ok_opt]
  exact h
theorem w_isiD {y : Ty} {a : D} {S : Sto} {Q : D → Sto → Prop} (h : ∃ r, (isTyO S y a).map D.bl = some r ∧ Q r S) : Ok (isiD y a) S Q := by
  simp only [isiD, ok_bind, ok_pure, ok_ofO, ok_chk, ok_opt]
  exact h
theorem w_next {c : Call} {ρ : Env} {S : Sto} {Q : Fl → Sto → Prop} (h : Q (.nx ρ) S) : Ok (sNext c ρ) S Q := by
  simp only [sNext, ok_bind, ok_pure, ok_ofO, ok_chk, ok_opt]
  exact h
theorem w_seq {a b : MS} {c : Call} {ρ : Env} {S : Sto} {Q : Fl → Sto → Prop} (h : Ok (a c ρ) S fun fl S1 => match fl with
    | .nx ρ1 => Ok (b c ρ1) S1 Q
    | fl => Q fl S1) : Ok (sSeq a b c ρ) S Q := by
  unfold sSeq
  rw [ok_bind]
  exact h.mono fun fl S1 h => by cases fl <;> exact h
theorem w_ret  {Q : Fl → Sto → Prop} (h : Ok (f c ρ) S fun d S1 => Q (.rt d) S1) : Ok (sRet f c ρ) S Q := by
  simp only [sRet, ok_bind, ok_pure, ok_ofO, ok_chk, ok_opt]
  exact h
theorem w_retN {c : Call} {ρ : Env} {S : Sto} {Q : Fl → Sto → Prop} (h : Q (.rt .non) S) : Ok (sRetN c ρ) S Q := by
  simp only [sRetN, ok_bind, ok_pure, ok_ofO, ok_chk, ok_opt]
  exact h
theorem w_brk {c : Call} {ρ : Env} {S : Sto} {Q : Fl → Sto → Prop} (h : Q (.bk ρ) S) : Ok (sBreak c ρ) S Q := by
  simp only [sBreak, ok_bind, ok_pure, ok_ofO, ok_chk, ok_opt]
  exact h
theorem w_cont {c : Call} {ρ : Env} {S : Sto} {Q : Fl → Sto → Prop} (h : Q (.ct ρ) S) : Ok (sCont c ρ) S Q := by
  simp only [sCont, ok_bind, ok_pure, ok_ofO, ok_chk, ok_opt]
  exact h
theorem w_drop  {Q : Fl → Sto → Prop} (h : Ok (f c ρ) S fun _ S1 => Q (.nx ρ) S1) : Ok (sDrop f c ρ) S Q := by
  simp only [sDrop, ok_bind, ok_pure, ok_ofO, ok_chk, ok_opt]
  exact h
theorem w_asg {γ : MG} {f : ME} {c : Call} {ρ : Env} {S : Sto} {Q : Fl → Sto → Prop} (h : Ok (f c ρ) S fun d S1 => Ok (γ c d ρ) S1 fun ρ1 S2 => Q (.nx ρ1) S2) : Ok (sAsg f γ c ρ) S Q := by
  simp only [sAsg, ok_bind, ok_pure, ok_ofO, ok_chk, ok_opt]
  exact h
theorem w_gname {i : Nat} {d : D} {c : Call} {ρ : Env} {S : Sto} {Q : Env → Sto → Prop} (h : Q (ρ.set i (some d)) S) : Ok (MI.gName i c d ρ) S Q := by
  simp only [MI.gName, ok_bind, ok_pure, ok_ofO, ok_chk, ok_opt]
  exact h
theorem w_sif {t : MT} {a b : MS} {c : Call} {ρ : Env} {S : Sto} {Q : Fl → Sto → Prop} (h : Ok (t c ρ) S fun r S1 => match r with | true => Ok (a c ρ) S1 Q | false => Ok (b c ρ) S1 Q) : Ok (sIf t a b c ρ) S Q := by
  simp only [sIf, ok_bind, ok_pure, ok_ofO, ok_chk, ok_opt]
  exact h.mono fun b S1 h => by cases b <;> exact h
theorem w_par {as : MA} {is : List Nat} {c : Call} {ρ : Env} {S : Sto} {Q : Fl → Sto → Prop} (h : Ok (as c ρ) S fun ds S1 => ds.length = is.length ∧ Q (.nx (setAll ρ is ds)) S1) : Ok (sPar as is c ρ) S Q := by
  simp only [sPar, decide_eq_true_eq, ok_bind, ok_pure, ok_ofO, ok_chk, ok_opt]
  exact h
end
end MI

namespace MI
open PySem
theorem w_iseq {f : ME} {c : Call} {ρ : Env} {S : Sto} {Q : Src → Sto → Prop} (h : Ok (f c ρ) S fun d S1 => ∃ xs, stillO d = some xs ∧ Q (.fix xs) S1) : Ok (iSeq f c ρ) S Q := by
  unfold iSeq
  rw [ok_bind]
  refine h.mono fun d S1 ⟨xs, e, q⟩ => ?_
  cases d with
  | tup ys => cases e; exact q
  | lst ys => cases e; exact q
  | _ => cases e
theorem w_range1 {f : ME} {c : Call} {ρ : Env} {S : Sto} {Q : Src → Sto → Prop} (h : Ok (f c ρ) S fun d S1 => ∃ j : Int, some d = some (.int j) ∧ inR j = true ∧ Q (.fix (rangeL 0 j.toNat)) S1) : Ok (iRange1 f c ρ) S Q := by
  simp only [iRange1, iB, ok_bind, aCons, aNil, ok_pure]
  refine h.mono fun d S1 ⟨j, e, r, q⟩ => ?_
  cases e
  simp only [range1D, ok_bind, ok_chk, ok_pure]
  exact ⟨r, q⟩
/-- a comprehension over what stands still; the store stays -/
theorem w_comp {s : MI} {own : List Nat} {γ : MG} {t : MT} {e : ME} {c : Call} {ρ : Env} {S : Sto} {Q : List D → Sto → Prop} (h : D → Option D) (q : Ok (s c ρ) S fun z S1 => ∃ xs, z = .fix xs ∧ S1 = S ∧ xs.length ≤ sizeLine ∧
    (∀ x ∈ xs, Ok (γ c x (wipeE ρ own)) S fun ρ2 S1 => Ok (t c ρ2) S1 fun b S2 => match b with
      | true => Ok (e c ρ2) S2 fun y S3 => h x = some y ∧ S3 = S
      | false => h x = none ∧ S2 = S) ∧ Q (xs.filterMap h) S) : Ok (lComp s own γ t e c ρ) S Q := by
  unfold lComp
  rw [ok_bind]
  refine q.mono fun z S1 ⟨xs, e1, e2, l, hx, q⟩ => ?_
  subst e1 e2
  exact ok_compFix h xs [] S1 Q hx (by simpa using l) (by simpa using q)
theorem bls_map (p : D → Bool) : ∀ xs : List D, blsO (xs.map fun x => .bl (p x)) = some (xs.map p)
  | [] => rfl
  | x :: xs => by
    simp only [List.map_cons, blsO, bls_map p xs]
    rfl
/-- all([e for x in s]) -/
theorem w_all {s : MI} {own : List Nat} {γ : MG} {e : ME} {c : Call} {ρ : Env} {S : Sto} {Q : D → Sto → Prop} (p : D → Bool) (q : Ok (s c ρ) S fun z S1 => ∃ xs, z = .fix xs ∧ S1 = S ∧ xs.length ≤ sizeLine ∧
    (∀ x ∈ xs, Ok (γ c x (wipeE ρ own)) S fun ρ2 S1 => Ok (e c ρ2) S1 fun y S2 => y = .bl (p x) ∧ S2 = S) ∧ Q (.bl (xs.all p)) S) : Ok (eB (b1 allO) (aCons (eFz (lComp s own γ tYes e)) aNil) c ρ) S Q := by
  refine w_b (w_cons (w_fz (w_comp (fun x => some (.bl (p x))) ?_)))
  refine q.mono fun z S1 ⟨xs, e1, e2, l, hx, q⟩ => ⟨xs, e1, e2, l, fun x h => ?_, ?_⟩
  · refine (hx x h).mono fun ρ2 S1 h1 => w_tyes ?_
    exact Ok.mono h1 fun y S2 ⟨e3, e4⟩ => ⟨by rw [e3], e4⟩
  · refine w_nil (w_b1 ⟨.bl (xs.all p), ?_, q⟩)
    have e5 : (xs.filterMap fun x => some (D.bl (p x))) = xs.map fun x => .bl (p x) := by
      rw [← List.filterMap_eq_map]; rfl
    show (litemsO S (.lst _)).bind _ = _
    rw [e5]
    show ((blsO _).map fun bs => D.bl (bs.all id)) = _
    rw [bls_map]
    simp [List.all_map, Function.comp_def]
end MI

local macro_rules | `(tactic| walk_at "mi") => `(tactic| (first | (with_reducible refine MI.s_var (by with_unfolding_all rfl) ?_) | (with_reducible refine MI.w_c ?_) | (with_reducible refine MI.w_op ?_) | (with_reducible refine MI.w_un ?_) | (with_reducible refine MI.w_isi ?_) | (with_reducible refine MI.w_meth ?_) | (with_reducible refine MI.w_ofB ?_) | (with_reducible refine MI.w_cmp ?_) | (with_reducible refine MI.w_chain ?_) | (with_reducible refine MI.w_tand ?_) | (with_reducible refine MI.w_tor ?_) | (with_reducible refine MI.w_tnot ?_) | (with_reducible refine MI.w_tyes ?_) | (with_reducible refine MI.w_and ?_) | (with_reducible refine MI.w_or ?_) | (with_reducible refine MI.w_not ?_) | (with_reducible refine MI.w_isbl ?_) | (with_reducible refine MI.w_if ?_) | (with_reducible refine MI.w_nil ?_) | (with_reducible refine MI.w_cons ?_) | (with_reducible refine MI.w_fz ?_) | (with_reducible refine MI.w_mu ?_) | (with_reducible refine MI.w_lop ?_) | (with_reducible refine MI.w_lof ?_) | (with_reducible refine MI.w_item ?_) | (with_reducible refine MI.w_call ?_) | ((fail_if_success (with_reducible refine MI.w_all (fun _ => true) ?_)); with_reducible refine MI.w_b ?_) | (with_reducible refine MI.w_next ?_) | (with_reducible refine MI.w_seq ?_) | (with_reducible refine MI.w_ret ?_) | (with_reducible refine MI.w_retN ?_) | (with_reducible refine MI.w_brk ?_) | (with_reducible refine MI.w_cont ?_) | (with_reducible refine MI.w_drop ?_) | (with_reducible refine MI.w_asg ?_) | (with_reducible refine MI.w_gname ?_) | (with_reducible refine MI.w_sif ?_) | (with_reducible refine MI.w_b1 ⟨_, by with_unfolding_all rfl, ?_⟩) | (with_reducible refine MI.w_getItem ⟨_, by with_unfolding_all rfl, ?_⟩) | (with_reducible refine MI.w_cmpD ⟨_, by with_unfolding_all rfl, ?_⟩) | (with_reducible refine MI.w_isiD ⟨_, by with_unfolding_all rfl, ?_⟩) | (with_reducible refine MI.w_tru ⟨_, by with_unfolding_all rfl, ?_⟩) | (with_reducible refine MI.w_tru ?_) | (with_reducible refine MI.s_bind ?_) | (with_reducible refine MI.s_pure ?_) | (with_reducible refine MI.s_fin (by with_unfolding_all rfl) ?_) | (with_reducible refine MI.w_disp ?_) | (with_reducible refine MI.w_tup ?_) | (with_reducible refine MI.s_gcd ?_) | (with_reducible refine MI.s_add ?_) | (with_reducible refine MI.s_sub ?_) | (with_reducible refine MI.s_neg ?_) | (with_reducible refine MI.s_fits (by with_unfolding_all rfl) ?_) | (with_reducible refine MI.s_some (by with_unfolding_all rfl) ?_) | (dsimp only) | ((fail_if_success (with_reducible show MI.Ok _ _ _)); show MI.Ok _ _ _)))

namespace Lw
open PySem MI
abbrev Fs : List Fn := Ts.map FnT.F
def isIntD : D → Bool
  | .int _ => true
  | _ => false
theorem at_0 : Fs[0]? = some F_is_whole := rfl
theorem at_1 : Fs[1]? = some F_is_between := rfl
theorem at_2 : Fs[2]? = some F_is_tuple_of := rfl
theorem at_3 : Fs[3]? = some F_is_ratio := rfl
theorem at_4 : Fs[4]? = some F_is_row := rfl
theorem ok_is_whole {k : Nat} {d : D} {S : Sto} {Q : D → Sto → Prop} (hd : pureD d = true) (q : Q (.bl (isIntD d)) S) : Ok (callF Fs (k + 1) 0 [d]) S Q := by
  refine s_call at_0 rfl ?_
  unfold F_is_whole
  dsimp only
  cases d with
  | loc n => cases hd
  | scr n => cases hd
  | _ => ((repeat walk_at "mi"); exact q)
theorem ok_is_between {k : Nat} {v lo hi : Int} {S : Sto} {Q : D → Sto → Prop} (q : Q (.bl (decide (lo ≤ v ∧ v ≤ hi))) S) : Ok (callF Fs (k + 2) 1 [.int v, .int lo, .int hi]) S Q := by
  refine s_call at_1 rfl ?_
  unfold F_is_between
  dsimp only
  (repeat walk_at "mi")
  refine ok_is_whole rfl ?_
  (repeat walk_at "mi")
  by_cases h : lo ≤ v
  · simp only [h, decide_true]
    (repeat walk_at "mi")
    simpa [h] using q
  · simp only [h, decide_false]
    (repeat walk_at "mi")
    simpa [h] using q
def isTupN (d : D) (n : Int) : Bool := match d with
  | .tup xs => (xs.length : Int) == n
  | _ => false
theorem ok_is_tuple_of {k : Nat} {d : D} {n : Int} {S : Sto} {Q : D → Sto → Prop} (hd : pureD d = true) (q : Q (.bl (isTupN d n)) S) : Ok (callF Fs (k + 1) 2 [d, .int n]) S Q := by
  refine s_call at_2 rfl ?_
  unfold F_is_tuple_of
  dsimp only
  cases d with
  | loc n => cases hd
  | scr n => cases hd
  | _ => ((repeat walk_at "mi"); exact q)
def isFr (d : D) : Bool := match d with
  | .tup [.int a, .int b] => decide (0 < b) && (((Nat.gcd a.natAbs b.natAbs : Nat) : Int) == 1)
  | _ => false
theorem tupN2 {d : D} (h : isTupN d 2 = true) : ∃ x y, d = .tup [x, y] := by
  unfold isTupN at h
  split at h
  · rename_i xs
    match xs, h with
    | [x, y], _ => exact ⟨x, y, rfl⟩
    | [], h => simp at h
    | [_], h => simp at h
    | _ :: _ :: _ :: xs, h => simp at h; omega
  · cases h
theorem ok_is_ratio {k : Nat} {d : D} {S : Sto} {Q : D → Sto → Prop} (hd : pureD d = true) (q : Q (.bl (isFr d)) S) : Ok (callF Fs (k + 2) 3 [d]) S Q := by
  refine s_call at_3 rfl ?_
  unfold F_is_ratio
  dsimp only
  (repeat walk_at "mi")
  refine ok_is_tuple_of hd ?_
  (repeat walk_at "mi")
  cases h : isTupN d 2 with
  | false =>
    have e : isFr d = false := by
      cases e : isFr d with
      | false => rfl
      | true =>
        unfold isFr at e
        split at e
        · cases h
        · cases e
    rw [e] at q
    (repeat walk_at "mi")
    exact q
  | true =>
    obtain ⟨x, y, rfl⟩ := tupN2 h
    have h1 : pureD x = true := by simp [pureD, pureL] at hd; exact hd.1
    have h2 : pureD y = true := by simp [pureD, pureL] at hd; exact hd.2
    (repeat walk_at "mi")
    refine ok_is_whole h1 ?_
    (repeat walk_at "mi")
    cases x with
    | int a =>
      (repeat walk_at "mi")
      refine ok_is_whole h2 ?_
      (repeat walk_at "mi")
      cases y with
      | int b =>
        (repeat walk_at "mi")
        cases hb : decide (0 < b) with
        | true =>
          (repeat walk_at "mi")
          simpa [isFr, hb] using q
        | false =>
          (repeat walk_at "mi")
          simpa [isFr, hb] using q
      | _ => ((repeat walk_at "mi"); exact q)
    | _ => ((repeat walk_at "mi"); exact q)
end Lw

namespace Lw
open PySem MI
theorem at_5 : Fs[5]? = some F_ratio := rfl
theorem at_6 : Fs[6]? = some F_plus := rfl
theorem at_10 : Fs[10]? = some F_total := rfl
theorem at_12 : Fs[12]? = some F_is_table := rfl
def isRow (d : D) (n : Int) : Bool := match d with
  | .tup xs => ((xs.length : Int) == n) && xs.all isFr
  | _ => false
theorem pureL_mem {xs : List D} (h : pureL xs = true) : ∀ x ∈ xs, pureD x = true := by
  induction xs with
  | nil => intro x hx; cases hx
  | cons y ys ih =>
    have h : (pureD y && pureL ys) = true := h
    obtain ⟨h1, h2⟩ := Bool.and_eq_true_iff.mp h
    intro x hx
    rcases List.mem_cons.mp hx with e | hx
    · rw [e]; exact h1
    · exact ih h2 x hx
theorem ok_is_row {k : Nat} {d : D} {n : Int} {S : Sto} {Q : D → Sto → Prop} (hd : pureD d = true) (hn : n ≤ 1000) (q : Q (.bl (isRow d n)) S) : Ok (callF Fs (k + 3) 4 [d, .int n]) S Q := by
  refine s_call at_4 rfl ?_
  unfold F_is_row
  dsimp only
  (repeat walk_at "mi")
  refine ok_is_tuple_of hd ?_
  (repeat walk_at "mi")
  cases h : isTupN d n with
  | false =>
    have e : isRow d n = false := by
      cases d with
      | tup xs =>
        have h : ((xs.length : Int) == n) = false := h
        show (((xs.length : Int) == n) && xs.all isFr) = false
        rw [h]; rfl
      | _ => rfl
    rw [e] at q
    (repeat walk_at "mi")
    exact q
  | true =>
    (repeat walk_at "mi")
    cases d with
    | tup xs =>
      have hl : ((xs.length : Int) == n) = true := h
      have hl2 : (xs.length : Int) = n := by simpa using hl
      refine w_all isFr (w_iseq ?_)
      (repeat walk_at "mi")
      refine ⟨xs, rfl, rfl, by simp only [sizeLine]; omega, fun x hx => ?_, ?_⟩
      · (repeat walk_at "mi")
        refine ok_is_ratio (pureL_mem hd x hx) ?_
        exact ⟨rfl, rfl⟩
      · (repeat walk_at "mi")
        simpa [isRow, hl] using q
    | _ => cases h
def numOk (d : D) : Bool := match d with
  | .tup (.int a :: _) => decide (0 ≤ a)
  | _ => false
def isTable (d : D) : Bool := match d with
  | .tup xs => decide (1 ≤ (xs.length : Int) ∧ (xs.length : Int) ≤ 6) && xs.all fun r => isRow r xs.length && (match r with | .tup ys => ys.all numOk | _ => false)
  | _ => false
theorem ok_is_table {k : Nat} {d : D} {S : Sto} {Q : D → Sto → Prop} (hd : pureD d = true) (q : Q (.bl (isTable d)) S) : Ok (callF Fs (k + 4) 12 [d]) S Q := by
  refine s_call at_12 rfl ?_
  unfold F_is_table
  dsimp only
  cases d with
  | loc n => cases hd
  | scr n => cases hd
  | tup xs =>
    (repeat walk_at "mi")
    refine ok_is_between ?_
    (repeat walk_at "mi")
    cases h : decide (1 ≤ (xs.length : Int) ∧ (xs.length : Int) ≤ 6) with
    | false =>
      (repeat walk_at "mi")
      simpa [isTable, h] using q
    | true =>
      have hl := of_decide_eq_true h
      (repeat walk_at "mi")
      refine w_all (fun r => isRow r xs.length && (match r with | .tup ys => ys.all numOk | _ => false)) (w_iseq ?_)
      (repeat walk_at "mi")
      refine ⟨xs, rfl, rfl, by simp only [sizeLine]; omega, fun x hx => ?_, ?_⟩
      · have hx2 := pureL_mem hd x hx
        (repeat walk_at "mi")
        refine ok_is_row hx2 (by omega) ?_
        (repeat walk_at "mi")
        cases hr : isRow x xs.length with
        | false =>
          (repeat walk_at "mi")
          exact ⟨rfl, rfl⟩
        | true =>
          (repeat walk_at "mi")
          cases x with
          | tup ys =>
            have hr2 : (((ys.length : Int) == xs.length) && ys.all isFr) = true := hr
            obtain ⟨hy1, hy2⟩ := Bool.and_eq_true_iff.mp hr2
            have hy3 : (ys.length : Int) = xs.length := by simpa using hy1
            refine w_all numOk (w_iseq ?_)
            (repeat walk_at "mi")
            refine ⟨ys, rfl, rfl, by simp only [sizeLine]; omega, fun y hy => ?_, ⟨rfl, rfl⟩⟩
            have hf : isFr y = true := List.all_eq_true.mp hy2 y hy
            match y, hf with
            | .tup [.int a, .int b], _ =>
              (repeat walk_at "mi")
              exact ⟨rfl, rfl⟩
          | _ => cases hr
      · (repeat walk_at "mi")
        simpa [isTable, h] using q
  | _ => ((repeat walk_at "mi"); exact q)
end Lw

namespace Lw
open PySem MI
theorem at_31 : Fs[31]? = some F__law_frac := rfl
/-- turns of Euclid's loop -/
def meas (n a b : Nat) : Prop := b = 0 ∨ (0 < b ∧ ((b ≤ a ∧ a * b < 2 ^ n) ∨ (a < b ∧ a * b < 2 ^ (n - 1) ∧ 1 ≤ n)))
theorem meas_step {n a b : Nat} (h : meas n a b) (hb : 0 < b) : ∃ m, m < n ∧ meas m b (a % b) := by
  rcases h with h | ⟨_, ⟨h1, h2⟩ | ⟨h1, h2, h3⟩⟩
  · omega
  · have hn : 1 ≤ n := by
      rcases Nat.eq_zero_or_pos n with e | e
      · subst e
        have : 1 * 1 ≤ a * b := Nat.mul_le_mul (by omega) hb
        omega
      · exact e
    refine ⟨n - 1, by omega, ?_⟩
    rcases Nat.eq_zero_or_pos (a % b) with e | e
    · exact .inl e
    · have hlt : a % b < b := Nat.mod_lt _ hb
      refine .inr ⟨e, .inl ⟨Nat.le_of_lt hlt, ?_⟩⟩
      have h4 : 2 * (a % b) ≤ a := by
        have h5 := Nat.div_add_mod a b
        have h6 : 1 ≤ a / b := (Nat.one_le_div_iff hb).mpr h1
        have h7 : b * 1 ≤ b * (a / b) := Nat.mul_le_mul_left b h6
        omega
      have h8 : b * (2 * (a % b)) ≤ b * a := Nat.mul_le_mul_left b h4
      have h9 : 2 ^ n = 2 * 2 ^ (n - 1) := by
        have : n = (n - 1) + 1 := by omega
        rw [this, Nat.pow_succ, Nat.mul_comm]; rfl
      have h10 : b * (2 * (a % b)) = 2 * (b * (a % b)) := by rw [Nat.mul_left_comm]
      have h11 : b * a = a * b := Nat.mul_comm _ _
      omega
  · refine ⟨n - 1, by omega, ?_⟩
    rw [Nat.mod_eq_of_lt h1]
    rcases Nat.eq_zero_or_pos a with e | e
    · exact .inl e
    · exact .inr ⟨e, .inl ⟨Nat.le_of_lt h1, by rw [Nat.mul_comm]; exact h2⟩⟩
theorem meas_start {a b : Nat} (ha : a < 2 ^ 9000) (hb : b < 2 ^ 9000) : meas 18001 a b := by
  rcases Nat.eq_zero_or_pos b with e | e
  · exact .inl e
  · refine .inr ⟨e, ?_⟩
    have h : a * b < 2 ^ 18000 := by
      have : (2 : Nat) ^ 18000 = 2 ^ 9000 * 2 ^ 9000 := by rw [← Nat.pow_add]
      rw [this]
      exact Nat.mul_lt_mul'' ha hb
    rcases Nat.lt_or_ge a b with l | l
    · exact .inr ⟨l, h, by omega⟩
    · refine .inl ⟨l, Nat.lt_trans h ?_⟩
      exact Nat.pow_lt_pow_right (by omega) (by omega)
theorem fmod_nat (a b : Nat) : Int.fmod (a : Int) (b : Int) = ((a % b : Nat) : Int) := by
  rw [Int.fmod_eq_emod_of_nonneg _ (by omega)]
  rfl
def lowF (up down : Int) : D := .tup [.int (up.fdiv (Nat.gcd up.natAbs down.natAbs : Nat)), .int (down.fdiv (Nat.gcd up.natAbs down.natAbs : Nat))]
theorem ok_law_frac {k : Nat} {up down : Int} {S : Sto} {Q : D → Sto → Prop} (hd : 0 < down) (h1 : up.natAbs < 2 ^ 9000) (h2 : down.natAbs < 2 ^ 9000) (q : Q (lowF up down) S) : Ok (callF Fs (k + 1) 31 [.int up, .int down]) S Q := by
  refine s_call at_31 rfl ?_
  unfold F__law_frac
  dsimp only
  (repeat walk_at "mi")
  refine w_par ?_
  (repeat walk_at "mi")
  refine ⟨rfl, ?_⟩
  (repeat walk_at "mi")
  refine ok_while (fun n ρ S1 => S1 = S ∧ ∃ a b : Nat, ρ = [some (.int up), some (.int down), some (.int a), some (.int b)] ∧ Nat.gcd a b = Nat.gcd up.natAbs down.natAbs ∧ meas n a b) ?_ turns 18001 _ S (by decide) ⟨rfl, up.natAbs, down.natAbs, ?_, rfl, meas_start h1 h2⟩
  · intro n ρ S1 ⟨e, a, b, e2, hg, hm⟩
    subst e e2
    (repeat walk_at "mi")
    cases hb : decide ((0 : Int) < b) with
    | true =>
      have hb2 : 0 < b := by have := of_decide_eq_true hb; omega
      (repeat walk_at "mi")
      refine w_par ?_
      (repeat walk_at "mi")
      refine s_mod (by omega) ?_
      (repeat walk_at "mi")
      refine ⟨rfl, ?_⟩
      (repeat walk_at "mi")
      obtain ⟨m, l, hm2⟩ := meas_step hm hb2
      refine ⟨m, l, rfl, b, a % b, ?_, ?_, hm2⟩
      · rw [← fmod_nat]; rfl
      · rw [← hg, Nat.gcd_comm, ← Nat.gcd_rec, Nat.gcd_comm]
    | false =>
      have hb2 : b = 0 := by have := of_decide_eq_false hb; omega
      subst hb2
      have ha : a = Nat.gcd up.natAbs down.natAbs := by rw [← hg, Nat.gcd_zero_right]
      (repeat walk_at "mi")
      have hp : 0 < Nat.gcd up.natAbs down.natAbs := Nat.gcd_pos_of_pos_right _ (by omega)
      have hle : Nat.gcd up.natAbs down.natAbs ≤ down.natAbs := Nat.gcd_le_right _ (by omega)
      have hdv : ∀ x : Int, divOk x (a : Int) = true := fun x => divOk_of (by omega) (by
        rw [ha]
        exact Nat.lt_of_le_of_lt (by simpa using hle) h2)
      (repeat walk_at "mi")
      refine s_div (hdv _) ?_
      (repeat walk_at "mi")
      refine s_div (hdv _) ?_
      (repeat walk_at "mi")
      rw [ha]
      (repeat walk_at "mi")
      exact q
  · have e1 : (if up < 0 then -up else up) = (up.natAbs : Int) := by split <;> omega
    have e2 : (down.natAbs : Int) = down := by omega
    show [some (D.int up), some (D.int down), some (D.int (if up < 0 then -up else up)), some (D.int down)] = _
    rw [e1, e2]
end Lw

namespace Lw
open PySem MI
theorem eq_pair (S : Sto) (a b c d : Int) : eqO S (.tup [.int a, .int b]) (.tup [.int c, .int d]) = some ((a == c) && (b == d)) := by
  show some (PyData.eqv _ _) = _
  simp [PyData.eqv, PyData.eqvAll]
theorem eqv_pair (a b c d : Int) : PyData.eqv (.tuple [.int a, .int b]) (.tuple [.int c, .int d]) = ((a == c) && (b == d)) := by
  simp [PyData.eqv, PyData.eqvAll]
/-- no whole number in it is longer than n bits -/
def intB (n : Nat) (d : D) : Prop := ∀ a b : Int, d = .tup [.int a, .int b] → a.natAbs < 2 ^ n ∧ b.natAbs < 2 ^ n
theorem low_id {a b : Int} (hb : 0 < b) : ((a.fdiv (Nat.gcd a.natAbs b.natAbs : Nat) == a) && (b.fdiv (Nat.gcd a.natAbs b.natAbs : Nat) == b)) = (((Nat.gcd a.natAbs b.natAbs : Nat) : Int) == 1) := by
  have hp : 0 < Nat.gcd a.natAbs b.natAbs := Nat.gcd_pos_of_pos_right _ (by omega)
  generalize hg : Nat.gcd a.natAbs b.natAbs = g at hp
  rcases Nat.lt_or_ge 1 g with l | l
  · have h1 : ((g : Int) == 1) = false := by simp; omega
    have h2 : (b.fdiv (g : Int) == b) = false := by
      have h3 : b.fdiv (g : Int) < b := by
        rw [Int.fdiv_eq_ediv_of_nonneg _ (by omega)]
        exact Int.ediv_lt_self_of_pos_of_ne_one (by omega) (by omega)
      simp; omega
    rw [h1, h2, Bool.and_false]
  · have e : g = 1 := by omega
    subst e
    simp
end Lw

namespace Lw
open PySem MI
def rowB (d : D) : Prop := ∀ xs, d = .tup xs → ∀ x ∈ xs, intB 5000 x
def tabB (d : D) : Prop := ∀ xs, d = .tup xs → ∀ r ∈ xs, rowB r
def rowNum (d : D) : Bool := match d with
  | .tup ys => ys.all numOk
  | _ => false
def bads (good : D → Bool) (x : D) : Option D := if good x then none else some x
theorem fm_empty (good : D → Bool) : ∀ xs : List D, (xs.filterMap (bads good)).isEmpty = xs.all good
  | [] => rfl
  | x :: xs => by
    cases h : good x with
    | true =>
      rw [List.filterMap_cons_none (by simp [bads, h]), fm_empty good xs]
      simp [h]
    | false =>
      rw [List.filterMap_cons_some (b := x) (by simp [bads, h])]
      simp [h]
theorem all_both (p q : D → Bool) : ∀ xs : List D, (xs.all fun x => p x && q x) = (xs.all p && xs.all q)
  | [] => rfl
  | x :: xs => by
    rw [List.all_cons, List.all_cons, List.all_cons, all_both p q xs]
    cases p x <;> cases q x <;> cases xs.all p <;> cases xs.all q <;> rfl
theorem isTable_eq (xs : List D) : isTable (.tup xs) = (decide (1 ≤ (xs.length : Int) ∧ (xs.length : Int) ≤ 6) && xs.all fun r => isRow r xs.length && rowNum r) := rfl
end Lw

namespace Lw
open PySem MI
theorem at_32 : Fs[32]? = some F__law_plus := rfl
theorem at_35 : Fs[35]? = some F__law_total := rfl
theorem ok_ratio {k : Nat} {up down : Int} {S : Sto} {Q : D → Sto → Prop} (hd : 0 < down) (h2 : down.natAbs < 2 ^ 9000) (q : Q (lowF up down) S) : Ok (callF Fs (k + 1) 5 [.int up, .int down]) S Q := by
  refine s_call at_5 rfl ?_
  unfold F_ratio
  dsimp only
  (repeat walk_at "mi")
  rw [decide_eq_true hd]
  have hp : 0 < Nat.gcd up.natAbs down.natAbs := Nat.gcd_pos_of_pos_right _ (by omega)
  have hle : Nat.gcd up.natAbs down.natAbs ≤ down.natAbs := Nat.gcd_le_right _ (by omega)
  have hdv : ∀ x : Int, divOk x ((Nat.gcd up.natAbs down.natAbs : Nat) : Int) = true := fun x => divOk_of (by omega) (by
    exact Nat.lt_of_le_of_lt (by simpa using hle) h2)
  (repeat walk_at "mi")
  refine s_div (hdv _) ?_
  (repeat walk_at "mi")
  refine s_div (hdv _) ?_
  (repeat walk_at "mi")
  exact q
/-- a fraction, its size -/
def fB (n : Nat) (p : Int × Int) : Prop := 0 < p.2 ∧ p.1.natAbs < 2 ^ n ∧ p.2.natAbs < 2 ^ n
def pd (p : Int × Int) : D := .tup [.int p.1, .int p.2]
def low (up down : Int) : Int × Int := (up.fdiv (Nat.gcd up.natAbs down.natAbs : Nat), down.fdiv (Nat.gcd up.natAbs down.natAbs : Nat))
theorem low_pd (up down : Int) : lowF up down = pd (low up down) := rfl
def addF (x y : Int × Int) : Int × Int := low (x.1 * y.2 + y.1 * x.2) (x.2 * y.2)
theorem nat_mul_lt {a b n m : Nat} (h1 : a < 2 ^ n) (h2 : b < 2 ^ m) : a * b < 2 ^ (n + m) := by
  rw [Nat.pow_add]
  exact Nat.mul_lt_mul'' h1 h2
theorem raw_size {n m : Nat} {x y : Int × Int} (hx : fB n x) (hy : fB m y) : 0 < x.2 * y.2 ∧ (x.1 * y.2 + y.1 * x.2).natAbs < 2 ^ (n + m + 1) ∧ (x.2 * y.2).natAbs < 2 ^ (n + m) := by
  obtain ⟨x1, x2, x3⟩ := hx
  obtain ⟨y1, y2, y3⟩ := hy
  refine ⟨Int.mul_pos x1 y1, ?_, ?_⟩
  · have h1 := nat_mul_lt x2 y3
    have h2 := nat_mul_lt y2 x3
    rw [Nat.add_comm m n] at h2
    have h3 := Int.natAbs_add_le (x.1 * y.2) (y.1 * x.2)
    rw [Int.natAbs_mul, Int.natAbs_mul] at h3
    rw [Nat.pow_succ]
    omega
  · rw [Int.natAbs_mul]
    exact nat_mul_lt x3 y3
theorem ok_plus {k n m : Nat} {x y : Int × Int} {S : Sto} {Q : D → Sto → Prop} (hx : fB n x) (hy : fB m y) (hnm : n + m < 8990) (q : Q (pd (addF x y)) S) : Ok (callF Fs (k + 2) 6 [pd x, pd y]) S Q := by
  obtain ⟨r1, r2, r3⟩ := raw_size hx hy
  have up : ∀ {a j : Nat}, a < 2 ^ j → j ≤ 9000 → a < 2 ^ 10000 := fun h hj => Nat.lt_of_lt_of_le h (Nat.pow_le_pow_right (by omega) (by omega))
  refine s_call at_6 rfl ?_
  unfold F_plus pd
  dsimp only
  (repeat walk_at "mi")
  refine s_mul (mulOk_of (up hx.2.1 (by omega)) (up hy.2.2 (by omega))) ?_
  (repeat walk_at "mi")
  refine s_mul (mulOk_of (up hy.2.1 (by omega)) (up hx.2.2 (by omega))) ?_
  (repeat walk_at "mi")
  refine s_mul (mulOk_of (up hx.2.2 (by omega)) (up hy.2.2 (by omega))) ?_
  (repeat walk_at "mi")
  refine ok_ratio r1 (Nat.lt_of_lt_of_le r3 (Nat.pow_le_pow_right (by omega) (by omega))) ?_
  (repeat walk_at "mi")
  exact q
theorem ok_law_plus {k n m : Nat} {x y : Int × Int} {S : Sto} {Q : D → Sto → Prop} (hx : fB n x) (hy : fB m y) (hnm : n + m < 8990) (q : Q (pd (addF x y)) S) : Ok (callF Fs (k + 2) 32 [pd x, pd y]) S Q := by
  obtain ⟨r1, r2, r3⟩ := raw_size hx hy
  have up : ∀ {a j : Nat}, a < 2 ^ j → j ≤ 9000 → a < 2 ^ 10000 := fun h hj => Nat.lt_of_lt_of_le h (Nat.pow_le_pow_right (by omega) (by omega))
  have up5 : ∀ {a j : Nat}, a < 2 ^ j → j ≤ 9000 → a < 2 ^ 9000 := fun h hj => Nat.lt_of_lt_of_le h (Nat.pow_le_pow_right (by omega) hj)
  refine s_call at_32 rfl ?_
  unfold F__law_plus pd
  dsimp only
  (repeat walk_at "mi")
  refine s_mul (mulOk_of (up hx.2.1 (by omega)) (up hy.2.2 (by omega))) ?_
  (repeat walk_at "mi")
  refine s_mul (mulOk_of (up hy.2.1 (by omega)) (up hx.2.2 (by omega))) ?_
  (repeat walk_at "mi")
  refine s_mul (mulOk_of (up hx.2.2 (by omega)) (up hy.2.2 (by omega))) ?_
  (repeat walk_at "mi")
  refine ok_law_frac r1 (up5 r2 (by omega)) (up5 r3 (by omega)) ?_
  (repeat walk_at "mi")
  exact q
end Lw

namespace MI
theorem w_for {s : MI} {γ : MG} {b : MS} {c : Call} {ρ : Env} {S : Sto} {Q : Fl → Sto → Prop} (h : Ok (s c ρ) S fun z S1 => ∃ xs, z = .fix xs ∧ Ok (forFix γ b c xs ρ) S1 Q) : Ok (sFor s γ b c ρ) S Q := by
  unfold sFor
  rw [ok_bind]
  refine h.mono fun z S1 ⟨xs, e, q⟩ => ?_
  subst e
  exact q
end MI
namespace Lw
open PySem MI
theorem low_size {n m : Nat} {up down : Int} (hd : 0 < down) (h1 : up.natAbs < 2 ^ n) (h2 : down.natAbs < 2 ^ m) (l : m ≤ n) : fB n (low up down) := by
  have hp : 0 < Nat.gcd up.natAbs down.natAbs := Nat.gcd_pos_of_pos_right _ (by omega)
  have d1 : ((Nat.gcd up.natAbs down.natAbs : Nat) : Int) ∣ up := Int.ofNat_dvd_left.mpr (Nat.gcd_dvd_left _ _)
  have d2 : ((Nat.gcd up.natAbs down.natAbs : Nat) : Int) ∣ down := Int.ofNat_dvd_left.mpr (Nat.gcd_dvd_right _ _)
  unfold fB low
  generalize Nat.gcd up.natAbs down.natAbs = g at hp d1 d2
  obtain ⟨a, ha⟩ := d1
  obtain ⟨b, hb⟩ := d2
  have hg : (g : Int) ≠ 0 := by omega
  have e1 : up.fdiv g = a := by rw [ha]; exact Int.mul_fdiv_cancel_left _ hg
  have e2 : down.fdiv g = b := by rw [hb]; exact Int.mul_fdiv_cancel_left _ hg
  rw [e1, e2]
  have la : a.natAbs ≤ up.natAbs := by
    rw [ha, Int.natAbs_mul]
    exact Nat.le_mul_of_pos_left _ (by simpa using hp)
  have lb : b.natAbs ≤ down.natAbs := by
    rw [hb, Int.natAbs_mul]
    exact Nat.le_mul_of_pos_left _ (by simpa using hp)
  refine ⟨?_, by omega, Nat.lt_of_lt_of_le (Nat.lt_of_le_of_lt lb h2) (Nat.pow_le_pow_right (by omega) l)⟩
  rw [hb] at hd
  exact Int.pos_of_mul_pos_right hd (by omega)
theorem addF_size {n m : Nat} {x y : Int × Int} (hx : fB n x) (hy : fB m y) : fB (n + m + 1) (addF x y) := by
  obtain ⟨r1, r2, r3⟩ := raw_size hx hy
  exact low_size r1 r2 r3 (by omega)
def sumF (fs : List (Int × Int)) : Int × Int := fs.foldl addF (0, 1)
theorem ok_total {k B : Nat} {fs : List (Int × Int)} {S : Sto} {Q : D → Sto → Prop} {d : D} (e : stillO d = some (fs.map pd)) (hB : ∀ x ∈ fs, fB B x) (l : 1 + fs.length * (B + 1) < 8900) (q : Q (pd (sumF fs)) S) : Ok (callF Fs (k + 3) 10 [d]) S Q := by
  refine s_call at_10 rfl ?_
  unfold F_total
  dsimp only
  (repeat walk_at "mi")
  refine w_for (w_iseq ?_)
  (repeat walk_at "mi")
  refine ⟨fs.map pd, e, fs.map pd, rfl, ?_⟩
  refine ok_forFix (fun xs ρ S1 => S1 = S ∧ ∃ rest acc n o, xs = rest.map pd ∧ ρ = [some d, some (pd acc), o] ∧ rest.foldl addF acc = sumF fs ∧ fB n acc ∧ (∀ x ∈ rest, fB B x) ∧ n + rest.length * (B + 1) < 8900) (fs.map pd) _ S ⟨rfl, fs, (0, 1), 1, none, rfl, rfl, rfl, ⟨by decide, by decide, by decide⟩, hB, l⟩ ?_ ?_
  · intro x xs ρ S1 ⟨e1, rest, acc, n, o, e2, e3, e4, h1, h2, h3⟩
    subst e1 e3
    cases rest with
    | nil => cases e2
    | cons y ys =>
      obtain ⟨rfl, rfl⟩ := List.cons.inj e2
      have h4 : n + (ys.length + 1) * (B + 1) < 8900 := h3
      rw [Nat.add_mul, Nat.one_mul] at h4
      (repeat walk_at "mi")
      refine ok_plus h1 (h2 y List.mem_cons_self) (by omega) ?_
      (repeat walk_at "mi")
      exact ⟨rfl, ys, addF acc y, n + B + 1, _, rfl, rfl, e4, addF_size h1 (h2 y List.mem_cons_self), fun x hx => h2 x (List.mem_cons_of_mem _ hx), by omega⟩
  · intro ρ S1 ⟨e1, rest, acc, n, o, e2, e3, e4, _⟩
    subst e1 e3
    cases rest with
    | cons y ys => cases e2
    | nil =>
      have e4 : acc = sumF fs := e4
      subst e4
      (repeat walk_at "mi")
      exact q
theorem ok_law_total {k B : Nat} {fs : List (Int × Int)} {S : Sto} {Q : D → Sto → Prop} {d : D} (e : stillO d = some (fs.map pd)) (hB : ∀ x ∈ fs, fB B x) (l : 1 + fs.length * (B + 1) < 8900) (q : Q (pd (sumF fs)) S) : Ok (callF Fs (k + 3) 35 [d]) S Q := by
  refine s_call at_35 rfl ?_
  unfold F__law_total
  dsimp only
  (repeat walk_at "mi")
  refine w_for (w_iseq ?_)
  (repeat walk_at "mi")
  refine ⟨fs.map pd, e, fs.map pd, rfl, ?_⟩
  refine ok_forFix (fun xs ρ S1 => S1 = S ∧ ∃ rest acc n o, xs = rest.map pd ∧ ρ = [some d, some (pd acc), o] ∧ rest.foldl addF acc = sumF fs ∧ fB n acc ∧ (∀ x ∈ rest, fB B x) ∧ n + rest.length * (B + 1) < 8900) (fs.map pd) _ S ⟨rfl, fs, (0, 1), 1, none, rfl, rfl, rfl, ⟨by decide, by decide, by decide⟩, hB, l⟩ ?_ ?_
  · intro x xs ρ S1 ⟨e1, rest, acc, n, o, e2, e3, e4, h1, h2, h3⟩
    subst e1 e3
    cases rest with
    | nil => cases e2
    | cons y ys =>
      obtain ⟨rfl, rfl⟩ := List.cons.inj e2
      have h4 : n + (ys.length + 1) * (B + 1) < 8900 := h3
      rw [Nat.add_mul, Nat.one_mul] at h4
      (repeat walk_at "mi")
      refine ok_law_plus h1 (h2 y List.mem_cons_self) (by omega) ?_
      (repeat walk_at "mi")
      exact ⟨rfl, ys, addF acc y, n + B + 1, _, rfl, rfl, e4, addF_size h1 (h2 y List.mem_cons_self), fun x hx => h2 x (List.mem_cons_of_mem _ hx), by omega⟩
  · intro ρ S1 ⟨e1, rest, acc, n, o, e2, e3, e4, _⟩
    subst e1 e3
    cases rest with
    | cons y ys => cases e2
    | nil =>
      have e4 : acc = sumF fs := e4
      subst e4
      (repeat walk_at "mi")
      exact q
end Lw

/-! KQ: fractions as rational numbers. -/
namespace Lw
open MI
/-- a fraction in lowest terms -/
def red (p : Int × Int) : Prop := 0 < p.2 ∧ Nat.gcd p.1.natAbs p.2.natAbs = 1
def rq (p : Int × Int) : Rat := Rat.divInt p.1 p.2
theorem low_parts {up down : Int} (hd : 0 < down) : ∃ g : Int, 0 < g ∧ up = g * (low up down).1 ∧ down = g * (low up down).2 ∧ g = (Nat.gcd up.natAbs down.natAbs : Nat) := by
  have hp : 0 < Nat.gcd up.natAbs down.natAbs := Nat.gcd_pos_of_pos_right _ (by omega)
  have d1 : ((Nat.gcd up.natAbs down.natAbs : Nat) : Int) ∣ up := Int.ofNat_dvd_left.mpr (Nat.gcd_dvd_left _ _)
  have d2 : ((Nat.gcd up.natAbs down.natAbs : Nat) : Int) ∣ down := Int.ofNat_dvd_left.mpr (Nat.gcd_dvd_right _ _)
  refine ⟨(Nat.gcd up.natAbs down.natAbs : Nat), by omega, ?_, ?_, rfl⟩
  · unfold low
    generalize Nat.gcd up.natAbs down.natAbs = g at hp d1
    obtain ⟨a, ha⟩ := d1
    show up = g * up.fdiv g
    rw [show up.fdiv g = a by rw [ha]; exact Int.mul_fdiv_cancel_left _ (by omega), ha]
  · unfold low
    generalize Nat.gcd up.natAbs down.natAbs = g at hp d2
    obtain ⟨a, ha⟩ := d2
    show down = g * down.fdiv g
    rw [show down.fdiv g = a by rw [ha]; exact Int.mul_fdiv_cancel_left _ (by omega), ha]
theorem low_pos {up down : Int} (hd : 0 < down) : 0 < (low up down).2 := by
  obtain ⟨g, h1, h2, h3, _⟩ := low_parts (up := up) hd
  rw [h3] at hd
  exact Int.pos_of_mul_pos_right hd (by omega)
theorem low_red {up down : Int} (hd : 0 < down) : red (low up down) := by
  refine ⟨low_pos hd, ?_⟩
  obtain ⟨g, h1, h2, h3, h4⟩ := low_parts (up := up) hd
  have h5 : Nat.gcd up.natAbs down.natAbs = g.natAbs * Nat.gcd (low up down).1.natAbs (low up down).2.natAbs := by
    rw [← Nat.gcd_mul_left, ← Int.natAbs_mul, ← Int.natAbs_mul, ← h2, ← h3]
  have h6 : g.natAbs = Nat.gcd up.natAbs down.natAbs := by omega
  rw [h6] at h5
  have h7 : 0 < Nat.gcd up.natAbs down.natAbs := by omega
  exact Nat.eq_of_mul_eq_mul_left h7 (by omega)
theorem low_q {up down : Int} (hd : 0 < down) : rq (low up down) = Rat.divInt up down := by
  have hp := low_pos (up := up) hd
  obtain ⟨g, h1, h2, h3, h4⟩ := low_parts (up := up) hd
  unfold rq
  refine (Rat.divInt_eq_divInt_iff (by omega) (by omega)).mpr ?_
  generalize (low up down).1 = a at *
  generalize (low up down).2 = b at *
  rw [h2, h3]
  grind
theorem rq_inj {p r : Int × Int} (hp : red p) (hr : red r) (h : rq p = rq r) : p = r := by
  obtain ⟨a, b⟩ := p
  obtain ⟨c, d⟩ := r
  obtain ⟨h1, h2⟩ := hp
  obtain ⟨h3, h4⟩ := hr
  have h5 : a * d = c * b := (Rat.divInt_eq_divInt_iff (by simp only at h1; omega) (by simp only at h3; omega)).mp h
  dsimp only at h1 h2 h3 h4
  have h6 : a.natAbs * d.natAbs = c.natAbs * b.natAbs := by rw [← Int.natAbs_mul, ← Int.natAbs_mul, h5]
  have c1 : Nat.Coprime b.natAbs a.natAbs := by rw [Nat.Coprime, Nat.gcd_comm]; exact h2
  have c2 : Nat.Coprime d.natAbs c.natAbs := by rw [Nat.Coprime, Nat.gcd_comm]; exact h4
  have d1 : b.natAbs ∣ d.natAbs := c1.dvd_of_dvd_mul_left (by rw [h6]; exact Nat.dvd_mul_left _ _)
  have d2 : d.natAbs ∣ b.natAbs := c2.dvd_of_dvd_mul_left (by rw [← h6]; exact Nat.dvd_mul_left _ _)
  have e : b.natAbs = d.natAbs := Nat.dvd_antisymm d1 d2
  have e2 : b = d := by omega
  subst e2
  have e3 : a = c := Int.eq_of_mul_eq_mul_right (by omega) h5
  rw [e3]
theorem rq_eq {p r : Int × Int} (hp : red p) (hr : red r) : p = r ↔ rq p = rq r := ⟨fun h => by rw [h], rq_inj hp hr⟩
theorem rq_div {p : Int × Int} (h : p.2 ≠ 0) : rq p = (p.1 : Rat) / (p.2 : Rat) := by
  unfold rq
  rw [Rat.divInt_eq_div]
theorem rq_zero : rq (0, 1) = 0 := by decide
theorem rq_one : rq (1, 1) = 1 := by decide
theorem red_zero : red (0, 1) := ⟨by decide, by decide⟩
theorem red_one : red (1, 1) := ⟨by decide, by decide⟩
theorem addF_q {x y : Int × Int} (hx : 0 < x.2) (hy : 0 < y.2) : rq (addF x y) = rq x + rq y := by
  unfold addF
  rw [low_q (Int.mul_pos hx hy)]
  unfold rq
  rw [Rat.divInt_add_divInt _ _ (by omega) (by omega)]
theorem addF_red {x y : Int × Int} (hx : 0 < x.2) (hy : 0 < y.2) : red (addF x y) := low_red (Int.mul_pos hx hy)
theorem sum_foldl : ∀ (fs : List (Int × Int)) (acc : Int × Int), 0 < acc.2 → (∀ p ∈ fs, 0 < p.2) → rq (fs.foldl addF acc) = rq acc + (fs.map rq).sum
  | [], acc, _, _ => by simp only [List.foldl_nil, List.map_nil, List.sum_nil]; grind
  | p :: fs, acc, h, hs => by
    have h1 := hs p List.mem_cons_self
    rw [List.foldl_cons, sum_foldl fs _ (addF_red h h1).1 (fun x hx => hs x (List.mem_cons_of_mem _ hx)), addF_q h h1]
    simp only [List.map_cons, List.sum_cons]
    grind
theorem sum_red : ∀ (fs : List (Int × Int)) (acc : Int × Int), red acc → (∀ p ∈ fs, 0 < p.2) → red (fs.foldl addF acc)
  | [], acc, h, _ => h
  | p :: fs, acc, h, hs => sum_red fs _ (addF_red h.1 (hs p List.mem_cons_self)) fun x hx => hs x (List.mem_cons_of_mem _ hx)
theorem sumF_q {fs : List (Int × Int)} (h : ∀ p ∈ fs, 0 < p.2) : rq (sumF fs) = (fs.map rq).sum := by
  unfold sumF
  rw [sum_foldl fs _ (by decide) h, rq_zero]
  grind
theorem sumF_red {fs : List (Int × Int)} (h : ∀ p ∈ fs, 0 < p.2) : red (sumF fs) := sum_red fs _ red_zero h
theorem sumF_one {fs : List (Int × Int)} (h : ∀ p ∈ fs, 0 < p.2) : sumF fs = (1, 1) ↔ (fs.map rq).sum = 1 := by
  rw [rq_eq (sumF_red h) red_one, sumF_q h, rq_one]
/-- one over another -/
def overF (x y : Int × Int) : Int × Int := low (x.1 * y.2) (x.2 * y.1)
theorem rq_pos {x : Int × Int} (hx : 0 < x.2) : 0 < rq x ↔ 0 < x.1 := by
  rw [rq_div (by omega)]
  have h : (0 : Rat) < (x.2 : Rat) := by exact_mod_cast hx
  constructor
  · intro h1
    have h2 : (0 : Rat) < (x.1 : Rat) := by
      have := Rat.mul_pos h1 h
      rwa [Rat.div_mul_cancel (by grind)] at this
    exact_mod_cast h2
  · intro h1
    have h2 : (0 : Rat) < (x.1 : Rat) := by exact_mod_cast h1
    rw [Rat.div_def]
    exact Rat.mul_pos h2 (Rat.inv_pos.mpr h)
theorem overF_q {x y : Int × Int} (hx : 0 < x.2) (hy : 0 < y.2) (hz : 0 < y.1) : rq (overF x y) = rq x / rq y := by
  unfold overF
  rw [low_q (Int.mul_pos hx hz), rq_div (by omega), rq_div (by omega), Rat.divInt_eq_div, Rat.intCast_mul, Rat.intCast_mul]
  have h1 : (x.2 : Rat) ≠ 0 := by exact_mod_cast (by omega : x.2 ≠ 0)
  have h2 : (y.2 : Rat) ≠ 0 := by exact_mod_cast (by omega : y.2 ≠ 0)
  have h3 : (y.1 : Rat) ≠ 0 := by exact_mod_cast (by omega : y.1 ≠ 0)
  grind
theorem overF_red {x y : Int × Int} (hx : 0 < x.2) (hz : 0 < y.1) : red (overF x y) := low_red (Int.mul_pos hx hz)
end Lw

namespace MI
open PySem
theorem w_enum {f : ME} {c : Call} {ρ : Env} {S : Sto} {Q : Src → Sto → Prop} (h : Ok (f c ρ) S fun d S1 => ∃ xs, stillO d = some xs ∧ Q (.fix (numb 0 xs)) S1) : Ok (iEnum f c ρ) S Q := by
  simp only [iEnum, iB, ok_bind, aCons, aNil, ok_pure]
  refine h.mono fun d S1 ⟨xs, e, q⟩ => ?_
  simp only [enumD, still, ok_bind, ok_ofO, ok_pure]
  exact ⟨xs, e, q⟩
theorem w_gtup2 {i j : Nat} {a b : D} {c : Call} {ρ : Env} {S : Sto} {Q : Env → Sto → Prop} (q : Q ((ρ.set i (some a)).set j (some b)) S) : Ok (MI.gTup [MI.gName i, MI.gName j] c (.tup [a, b]) ρ) S Q := by
  simp only [MI.gTup, ok_bind, ok_chk, MI.gList, MI.gName, ok_pure]
  exact ⟨rfl, q⟩
end MI
namespace Lw
open PySem MI
theorem at_13 : Fs[13]? = some F_steps_from := rfl
def rowD (r : List (Int × Int)) : D := .tup (r.map pd)
def tabD (t : List (List (Int × Int))) : D := .tup (t.map rowD)
def natD (n : Nat) : D := .int n
def nzF : Nat → List (Int × Int) → List Nat
  | _, [] => []
  | k, p :: r => if (p.1 == 0 && p.2 == 1) = true then nzF (k + 1) r else k :: nzF (k + 1) r
def nzH (x : D) : Option D := match x with
  | .tup [i, .tup [.int a, .int b]] => if (a == 0 && b == 1) = true then none else some i
  | _ => none
theorem nz_eq : ∀ (r : List (Int × Int)) (k : Nat), (numb k (r.map pd)).filterMap nzH = (nzF k r).map natD
  | [], _ => rfl
  | p :: r, k => by
    show List.filterMap nzH (.tup [.int k, pd p] :: numb (k + 1) (r.map pd)) = _
    unfold nzF
    cases h : (p.1 == 0 && p.2 == 1) with
    | true =>
      rw [List.filterMap_cons_none (by show (if _ then _ else _) = _; rw [h]; rfl), nz_eq r (k + 1)]
      rfl
    | false =>
      rw [List.filterMap_cons_some (b := .int k) (by show (if _ then _ else _) = _; rw [h]; rfl), nz_eq r (k + 1)]
      rfl
theorem numb_len : ∀ (xs : List D) (k : Nat), (numb k xs).length = xs.length
  | [], _ => rfl
  | x :: xs, k => by
    show (numb (k + 1) xs).length + 1 = _
    rw [numb_len xs (k + 1)]
    rfl
theorem numb_mem : ∀ (r : List (Int × Int)) (k : Nat), ∀ x ∈ numb k (r.map pd), ∃ (i : Nat) (p : Int × Int), x = .tup [.int i, pd p]
  | [], _, x, h => by cases h
  | p :: r, k, x, h => by
    rcases List.mem_cons.mp h with e | h
    · exact ⟨k, p, e⟩
    · exact numb_mem r (k + 1) x h
theorem pure_nats : ∀ xs : List Nat, pureL (xs.map natD) = true
  | [] => rfl
  | x :: xs => by
    show (pureD (natD x) && pureL (xs.map natD)) = true
    rw [pure_nats xs]
    rfl
theorem atI_nat {α : Type} {xs : List α} {i : Nat} {x : α} (h : xs[i]? = some x) : L2.atI xs (i : Int) = some x := by
  have l : i < xs.length := (List.getElem?_eq_some_iff.mp h).1
  unfold L2.atI L2.ixN
  rw [if_pos (by omega), if_pos (by omega)]
  show xs[(i : Int).toNat]? = some x
  simpa using h
theorem ok_steps_from {k : Nat} {t : List (List (Int × Int))} {i : Nat} {r : List (Int × Int)} {S : Sto} {Q : D → Sto → Prop} (hi : t[i]? = some r) (hl : r.length ≤ 1000) (q : Q (.lst ((nzF 0 r).map natD)) S) : Ok (callF Fs (k + 1) 13 [tabD t, natD i]) S Q := by
  refine s_call at_13 rfl ?_
  unfold F_steps_from
  dsimp only
  (repeat walk_at "mi")
  refine w_comp nzH (w_enum ?_)
  (repeat walk_at "mi")
  refine w_getItem ⟨rowD r, ?_, ?_⟩
  · show L2.atI (t.map rowD) (i : Int) = _
    exact atI_nat (by rw [List.getElem?_map, hi]; rfl)
  · refine ⟨r.map pd, rfl, _, rfl, rfl, ?_, ?_, ?_⟩
    · rw [numb_len, List.length_map]
      simp only [sizeLine]; omega
    · intro x hx
      obtain ⟨j, p, rfl⟩ := numb_mem r 0 x hx
      refine w_gtup2 ?_
      (repeat walk_at "mi")
      rw [eqv_pair]
      cases h : (p.1 == 0 && p.2 == 1) with
      | true => exact ⟨by show (if _ then _ else _) = _; rw [h]; rfl, rfl⟩
      | false =>
        (repeat walk_at "mi")
        exact ⟨by show (if _ then _ else _) = _; rw [h]; rfl, rfl⟩
    · rw [nz_eq]
      refine s_fin ?_ q
      show pureL _ = true
      exact pure_nats _
end Lw

namespace MI
open PySem
theorem ok_comp2Fix {γ γ2 : MG} {t t2 : MT} {s2 : MI} {own2 : List Nat} {e : ME} {c : Call} {ρ : Env} (h : D → List D) (m : Nat) : ∀ (xs acc : List D) (S : Sto) (Q : List D → Sto → Prop),
    (∀ x ∈ xs, Ok (γ c x ρ) S fun ρ2 S1 => Ok (t c ρ2) S1 fun b S2 => b = true ∧ Ok (s2 c ρ2) S2 fun z S3 => ∃ ys hh, z = .fix ys ∧ S3 = S ∧ ys.length ≤ m ∧ (∀ y ∈ ys, Ok (γ2 c y (wipeE ρ2 own2)) S fun ρ3 S4 => Ok (t2 c ρ3) S4 fun b S5 => match b with
      | true => Ok (e c ρ3) S5 fun v S6 => hh y = some v ∧ S6 = S
      | false => hh y = none ∧ S5 = S) ∧ ys.filterMap hh = h x) → acc.length + xs.length * m ≤ sizeLine → Q (acc ++ xs.flatMap h) S → Ok (comp2Fix γ t s2 own2 γ2 t2 e c ρ xs acc) S Q
  | [], acc, S, Q, _, _, q => by
    rw [comp2Fix, ok_pure]
    simpa using q
  | x :: xs, acc, S, Q, hx, hl, q => by
    rw [comp2Fix, ok_bind, comp2Turn, ok_calm, ok_bind]
    have hl : acc.length + (xs.length + 1) * m ≤ sizeLine := hl
    rw [Nat.add_mul, Nat.one_mul] at hl
    refine (hx x List.mem_cons_self).mono fun ρ2 S1 h2 => ?_
    rw [ok_bind]
    refine h2.mono fun b S2 ⟨e1, h3⟩ => ?_
    subst e1
    show Ok (M.bind (s2 c ρ2) _) S2 _
    rw [ok_bind]
    refine h3.mono fun z S3 ⟨ys, hh, e2, e3, l, hy, e4⟩ => ?_
    subst e2 e3
    refine ok_compFix hh ys acc S3 _ hy (by omega) ?_
    rw [e4]
    have l2 : (h x).length ≤ m := by
      rw [← e4]
      exact Nat.le_trans (List.length_filterMap_le _ _) l
    refine ok_comp2Fix h m xs _ S3 Q (fun z hz => hx z (List.mem_cons_of_mem _ hz)) (by rw [List.length_append]; omega) ?_
    rw [List.flatMap_cons] at q
    simpa using q
theorem w_comp2 {s s2 : MI} {own own2 : List Nat} {γ γ2 : MG} {t t2 : MT} {e : ME} {c : Call} {ρ : Env} {S : Sto} {Q : List D → Sto → Prop} (h : D → List D) (m : Nat) (q : Ok (s c ρ) S fun z S1 => ∃ xs, z = .fix xs ∧ S1 = S ∧ xs.length * m ≤ sizeLine ∧
    (∀ x ∈ xs, Ok (γ c x (wipeE ρ own)) S fun ρ2 S1 => Ok (t c ρ2) S1 fun b S2 => b = true ∧ Ok (s2 c ρ2) S2 fun z S3 => ∃ ys hh, z = .fix ys ∧ S3 = S ∧ ys.length ≤ m ∧ (∀ y ∈ ys, Ok (γ2 c y (wipeE ρ2 own2)) S fun ρ3 S4 => Ok (t2 c ρ3) S4 fun b S5 => match b with
      | true => Ok (e c ρ3) S5 fun v S6 => hh y = some v ∧ S6 = S
      | false => hh y = none ∧ S5 = S) ∧ ys.filterMap hh = h x) ∧ Q (xs.flatMap h) S) : Ok (lComp2 s own γ t s2 own2 γ2 t2 e c ρ) S Q := by
  unfold lComp2
  rw [ok_bind]
  refine q.mono fun z S1 ⟨xs, e1, e2, l, hx, q⟩ => ?_
  subst e1 e2
  exact ok_comp2Fix h m xs [] S1 Q hx (by simpa using l) (by simpa using q)
/-! ### lists of whole numbers -/
theorem ints_map : ∀ ns : List Int, intsO (ns.map .int) = some ns
  | [] => rfl
  | n :: ns => by
    show (intsO (ns.map .int)).map (fun ys => n :: ys) = _
    rw [ints_map ns]
    rfl
theorem insI_perm (x : Int) : ∀ xs : List Int, (insI x xs).Perm (x :: xs)
  | [] => .refl _
  | y :: ys => by
    unfold insI
    split
    · exact .refl _
    · exact ((insI_perm x ys).cons y).trans (List.Perm.swap x y ys)
theorem sortI_perm2 : ∀ xs : List Int, (sortI xs).Perm xs
  | [] => .refl _
  | x :: xs => (insI_perm x (sortI xs)).trans ((sortI_perm2 xs).cons x)
theorem dedI_mem2 {y : Int} : ∀ xs : List Int, y ∈ dedI xs ↔ y ∈ xs
  | [] => Iff.rfl
  | x :: xs => by
    unfold dedI
    split
    · rename_i h
      rw [dedI_mem2 xs, List.mem_cons]
      exact ⟨.inr, fun h2 => h2.elim (fun e => by rw [e]; exact h) id⟩
    · rw [List.mem_cons, List.mem_cons, dedI_mem2 xs]
theorem dedI_nodup2 : ∀ xs : List Int, (dedI xs).Nodup
  | [] => List.nodup_nil
  | x :: xs => by
    unfold dedI
    split
    · exact dedI_nodup2 xs
    · rename_i h
      exact List.nodup_cons.mpr ⟨fun h2 => h ((dedI_mem2 xs).mp h2), dedI_nodup2 xs⟩
theorem w_sorted {f : ME} {c : Call} {ρ : Env} {S : Sto} {Q : List D → Sto → Prop} (h : Ok (f c ρ) S fun d S1 => ∃ ns : List Int, litemsO S1 d = some (ns.map .int) ∧ Q ((sortI ns).map .int) S1) : Ok (lSorted f c ρ) S Q := by
  simp only [lSorted, litems, ok_bind, ok_opt, ok_ofO, ok_pure]
  exact h.mono fun d S1 ⟨ns, e, q⟩ => ⟨_, e, ns, ints_map ns, q⟩
theorem w_sortedSet {f : ME} {c : Call} {ρ : Env} {S : Sto} {Q : List D → Sto → Prop} (h : Ok (f c ρ) S fun d S1 => ∃ ns : List Int, litemsO S1 d = some (ns.map .int) ∧ ns.length < 64 ∧ Q ((sortI (dedI ns)).map .int) S1) : Ok (lSortedSet f c ρ) S Q := by
  simp only [lSortedSet, litems, ok_bind, ok_opt, ok_ofO, ok_chk, ok_pure]
  exact h.mono fun d S1 ⟨ns, e, l, q⟩ => ⟨_, e, ns, ints_map ns, decide_eq_true l, q⟩
theorem in_ints (S : Sto) (n : Int) (ns : List Int) : inO S (.int n) (.lst (ns.map .int)) = some (decide (n ∈ ns)) := by
  have h1 : ∀ ns : List Int, (ns.map D.int).all flatD = true := fun ns => by simp [flatD]
  have h2 : ∀ ns : List Int, ((ns.map D.int).any fun z => eqF z (.int n)) = decide (n ∈ ns) := fun ns => by
    induction ns with
    | nil => rfl
    | cons m ms ih =>
      rw [List.map_cons, List.any_cons, ih]
      show (m == n || _) = _
      by_cases e : m = n
      · subst e; simp
      · have e2 : ¬ n = m := fun h => e h.symm
        simp [e, e2]
  show (match flatD (.int n) && (ns.map D.int).all flatD with | true => some ((ns.map D.int).any fun z => eqF z (.int n)) | false => none) = _
  rw [h1, h2]
  rfl
end MI

/-! K11: the closure that come_to finds. -/
namespace Lw
open PySem MI
abbrev Tab := List (List (Int × Int))
def nzI (r : List (Int × Int)) : List Int := (nzF 0 r).map Int.ofNat
theorem nz_int (r : List (Int × Int)) : (nzF 0 r).map natD = (nzI r).map D.int := by
  unfold nzI
  rw [List.map_map]
  rfl
def succ (t : Tab) (e : Int) : List Int := match t[e.toNat]? with
  | some r => nzI r
  | none => []
inductive Reach (t : Tab) (i : Int) : Int → Prop where
  | refl : Reach t i i
  | step {j k : Int} : Reach t i j → k ∈ succ t j → Reach t i k
def Sq (n : Nat) (t : Tab) : Prop := t.length = n ∧ ∀ r ∈ t, r.length = n
def inR0 (n : Nat) (e : Int) : Prop := 0 ≤ e ∧ e < n
theorem nzF_range : ∀ (r : List (Int × Int)) (k : Nat), ∀ x ∈ nzF k r, x < k + r.length
  | [], _, x, h => by cases h
  | p :: r, k, x, h => by
    have l : (p :: r).length = r.length + 1 := rfl
    unfold nzF at h
    split at h
    · have := nzF_range r (k + 1) x h
      omega
    · rcases List.mem_cons.mp h with e | h
      · omega
      · have := nzF_range r (k + 1) x h
        omega
theorem nzF_len : ∀ (r : List (Int × Int)) (k : Nat), (nzF k r).length ≤ r.length
  | [], _ => Nat.le_refl _
  | p :: r, k => by
    have l : (p :: r).length = r.length + 1 := rfl
    unfold nzF
    split
    · have := nzF_len r (k + 1)
      omega
    · have := nzF_len r (k + 1)
      rw [List.length_cons]
      omega
theorem succ_range {n : Nat} {t : Tab} (h : Sq n t) {e x : Int} (hx : x ∈ succ t e) : inR0 n x := by
  unfold succ at hx
  split at hx
  · rename_i r hr
    obtain ⟨k, hk, rfl⟩ := List.mem_map.mp hx
    have h1 := nzF_range r 0 k hk
    have h2 := h.2 r (List.mem_of_getElem? hr)
    exact ⟨Int.natCast_nonneg _, by simp only [Int.ofNat_eq_natCast]; omega⟩
  · cases hx
theorem succ_len {n : Nat} {t : Tab} (h : Sq n t) (e : Int) : (succ t e).length ≤ n := by
  unfold succ
  split
  · rename_i r hr
    have h2 := h.2 r (List.mem_of_getElem? hr)
    unfold nzI
    rw [List.length_map, ← h2]
    exact nzF_len r 0
  · exact Nat.zero_le _
theorem range_len {n : Nat} {xs : List Int} (d : xs.Nodup) (h : ∀ x ∈ xs, inR0 n x) : xs.length ≤ n := by
  have h1 : xs ⊆ (List.range n).map Int.ofNat := fun x hx => by
    obtain ⟨a, b⟩ := h x hx
    exact List.mem_map.mpr ⟨x.toNat, List.mem_range.mpr (by omega), by simp only [Int.ofNat_eq_natCast]; omega⟩
  have := List.Nodup.length_le_of_subset d h1
  simpa using this
structure CI (n : Nat) (t : Tab) (i : Int) (found last : List Int) : Prop where
  nd : found.Nodup
  ld : last.Nodup
  sub : ∀ x ∈ last, x ∈ found
  rng : ∀ x ∈ found, inR0 n x
  rch : ∀ x ∈ found, Reach t i x
  has : i ∈ found
  clo : ∀ x ∈ found, x ∉ last → ∀ y ∈ succ t x, y ∈ found
def nextL (t : Tab) (found last : List Int) : List Int := (sortI (dedI (last.flatMap (succ t)))).filter fun x => !decide (x ∈ found)
theorem next_mem {t : Tab} {found last : List Int} {x : Int} : x ∈ nextL t found last ↔ (∃ e ∈ last, x ∈ succ t e) ∧ x ∉ found := by
  unfold nextL
  rw [List.mem_filter, (sortI_perm2 _).mem_iff, dedI_mem2, List.mem_flatMap]
  simp
theorem CI.next {n : Nat} {t : Tab} {i : Int} {found last : List Int} (hs : Sq n t) (c : CI n t i found last) : CI n t i (found ++ nextL t found last) (nextL t found last) := by
  have ld : (nextL t found last).Nodup := List.Pairwise.filter _ ((sortI_perm2 _).nodup_iff.mpr (dedI_nodup2 _))
  refine ⟨List.nodup_append.mpr ⟨c.nd, ld, fun a ha b hb e => (next_mem.mp hb).2 (e ▸ ha)⟩, ld, fun x hx => List.mem_append.mpr (.inr hx), ?_, ?_, List.mem_append.mpr (.inl c.has), ?_⟩
  · intro x hx
    rcases List.mem_append.mp hx with h | h
    · exact c.rng x h
    · obtain ⟨⟨e, _, h2⟩, _⟩ := next_mem.mp h
      exact succ_range hs h2
  · intro x hx
    rcases List.mem_append.mp hx with h | h
    · exact c.rch x h
    · obtain ⟨⟨e, h1, h2⟩, _⟩ := next_mem.mp h
      exact (c.rch e (c.sub e h1)).step h2
  · intro x hx hn y hy
    rcases List.mem_append.mp hx with h | h
    · by_cases hl : x ∈ last
      · by_cases hf : y ∈ found
        · exact List.mem_append.mpr (.inl hf)
        · exact List.mem_append.mpr (.inr (next_mem.mpr ⟨⟨x, hl, hy⟩, hf⟩))
      · exact List.mem_append.mpr (.inl (c.clo x h hl y hy))
    · exact (hn h).elim
theorem CI.done {n : Nat} {t : Tab} {i : Int} {found : List Int} (c : CI n t i found []) (x : Int) : x ∈ found ↔ Reach t i x := by
  refine ⟨c.rch x, fun h => ?_⟩
  induction h with
  | refl => exact c.has
  | step _ h2 ih => exact c.clo _ ih (by simp) _ h2
def cm (n : Nat) (found last : List Int) : Nat := n - found.length + (if last = [] then 0 else 1)
theorem cm_next {n : Nat} {t : Tab} {i : Int} {found last : List Int} (hs : Sq n t) (c : CI n t i found last) (h : last ≠ []) : cm n (found ++ nextL t found last) (nextL t found last) < cm n found last := by
  unfold cm
  rw [if_neg h, List.length_append]
  cases e : nextL t found last with
  | nil => simp
  | cons y ys =>
    have := range_len (c.next hs).nd (c.next hs).rng
    rw [List.length_append, e] at this
    have l : (y :: ys).length = ys.length + 1 := rfl
    simp
    omega
end Lw

namespace MI
theorem w_while {t : MT} {b : MS} {c : Call} {ρ : Env} {S : Sto} {Q : Fl → Sto → Prop} (h : Ok (whileN t b c turns ρ) S Q) : Ok (sWhile t b c ρ) S Q := h
end MI
namespace Lw
open PySem MI
theorem at_14 : Fs[14]? = some F_come_to := rfl
theorem pure_ints : ∀ xs : List Int, pureL (xs.map D.int) = true
  | [] => rfl
  | x :: xs => by
    show (pureD (.int x) && pureL (xs.map D.int)) = true
    rw [pure_ints xs]
    rfl
def intsD (xs : List Int) : D := .lst (xs.map D.int)
theorem ne_ints (S : Sto) (xs : List Int) : cmpO .NotEq S (intsD xs) (.lst []) = some (!xs.isEmpty) := by
  show some (!(xs.map D.int).isEmpty) = _
  cases xs <;> rfl
theorem flat_int (f : Int → List Int) : ∀ xs : List Int, List.flatMap (fun x => match x with | .int e => (f e).map D.int | _ => []) (xs.map D.int) = (xs.flatMap f).map D.int
  | [] => rfl
  | x :: xs => by
    rw [List.map_cons, List.flatMap_cons, List.flatMap_cons, List.map_append, flat_int f xs]
theorem flat_len {n : Nat} (f : Int → List Int) (h : ∀ e, (f e).length ≤ n) : ∀ xs : List Int, (xs.flatMap f).length ≤ xs.length * n
  | [] => by simp
  | x :: xs => by
    have := flat_len f h xs
    have := h x
    rw [List.flatMap_cons, List.length_append, List.length_cons, Nat.add_mul, Nat.one_mul]
    omega
def notH (found : List Int) (x : D) : Option D := match x with
  | .int e => if e ∈ found then none else some (.int e)
  | _ => none
theorem not_eq (found : List Int) : ∀ xs : List Int, (xs.map D.int).filterMap (notH found) = (xs.filter fun x => !decide (x ∈ found)).map D.int
  | [] => rfl
  | x :: xs => by
    rw [List.map_cons]
    by_cases h : x ∈ found
    · rw [List.filterMap_cons_none (by show (if _ then _ else _) = _; rw [if_pos h]), not_eq found xs, List.filter_cons_of_neg (by simpa using h)]
    · rw [List.filterMap_cons_some (b := .int x) (by show (if _ then _ else _) = _; rw [if_neg h]), not_eq found xs, List.filter_cons_of_pos (by simpa using h)]
      rfl
theorem s_addL {a b : List Int} {S : Sto} {Q : D → Sto → Prop} (l : a.length + b.length ≤ 1000) (q : Q (intsD (a ++ b)) S) : Ok (addA (intsD a) (intsD b)) S Q := by
  show Ok (M.bind (catL (intsD a) (intsD b)) fun xs => M.pure (.lst xs)) S Q
  refine s_bind ?_
  unfold catL
  refine s_bind (s_opt (a := a.map D.int) rfl ?_)
  refine s_bind (s_opt (a := b.map D.int) rfl ?_)
  refine s_bind (s_chk ?_ ?_)
  · rw [List.length_map, List.length_map]
    exact decide_eq_true (by simp only [sizeLine]; omega)
  · refine s_pure (s_pure ?_)
    rw [← List.map_append]
    exact q
theorem ok_come_to {k n : Nat} {t : Tab} {i : Nat} {S : Sto} {Q : D → Sto → Prop} (hs : Sq n t) (hn : n ≤ 6) (hi : i < n) (q : ∀ L : List Int, L.Nodup → (∀ x ∈ L, inR0 n x) → (∀ x, x ∈ L ↔ Reach t i x) → Q (intsD L) S) : Ok (callF Fs (k + 2) 14 [tabD t, natD i]) S Q := by
  refine s_call at_14 rfl ?_
  unfold F_come_to
  dsimp only
  (repeat walk_at "mi")
  refine w_gtup2 ?_
  (repeat walk_at "mi")
  refine w_while ?_
  refine ok_while (fun m ρ S1 => S1 = S ∧ ∃ found last o4 o5, ρ = [some (tabD t), some (natD i), some (intsD found), some (intsD last), o4, o5] ∧ CI n t i found last ∧ cm n found last = m) ?_ turns (cm n [(i : Int)] [(i : Int)]) _ S ?_ ⟨rfl, [(i : Int)], [(i : Int)], none, none, rfl, ?_, rfl⟩
  · intro m ρ S1 ⟨e1, found, last, o4, o5, e2, c, em⟩
    subst e1 e2 em
    (repeat walk_at "mi")
    cases last with
    | nil =>
      (repeat walk_at "mi")
      refine w_sorted ?_
      (repeat walk_at "mi")
      refine ⟨found, rfl, ?_⟩
      (repeat walk_at "mi")
      have p := sortI_perm2 found
      refine s_fin ?_ (q (sortI found) (p.nodup_iff.mpr c.nd) (fun x hx => c.rng x (p.mem_iff.mp hx)) fun x => p.mem_iff.trans (c.done x))
      exact pure_ints _
    | cons y ys =>
      have hl : (y :: ys).length ≤ n := range_len c.ld fun x hx => c.rng x (c.sub x hx)
      have hdec := cm_next hs c (by simp)
      have hnx := c.next hs
      (repeat walk_at "mi")
      generalize y :: ys = last at c hl hdec hnx ⊢
      refine w_comp2 (fun x => match x with | .int e => (succ t e).map D.int | _ => []) n (w_iseq ?_)
      (repeat walk_at "mi")
      refine ⟨last.map D.int, rfl, rfl, ?_, ?_, ?_⟩
      · rw [List.length_map]
        have := Nat.mul_le_mul hl (Nat.le_refl n)
        have := Nat.mul_le_mul hn hn
        simp only [sizeLine]
        omega
      · intro x hx
        obtain ⟨e, he, rfl⟩ := List.mem_map.mp hx
        obtain ⟨e0, e1⟩ := c.rng e (c.sub e he)
        obtain ⟨m, rfl⟩ : ∃ m : Nat, e = m := ⟨e.toNat, by omega⟩
        have hm : m < t.length := by rw [hs.1]; omega
        have hr : t[m]? = some t[m] := List.getElem?_eq_getElem hm
        have hrl : t[m].length = n := hs.2 _ (List.getElem_mem hm)
        (repeat walk_at "mi")
        refine ⟨rfl, w_iseq ?_⟩
        (repeat walk_at "mi")
        refine ok_steps_from (i := m) hr (by omega) ?_
        refine ⟨_, rfl, _, some, rfl, rfl, ?_, ?_, ?_⟩
        · rw [List.length_map, ← hrl]
          exact nzF_len _ 0
        · intro y hy
          (repeat walk_at "mi")
          exact ⟨rfl, rfl⟩
        · rw [List.filterMap_some]
          show _ = (succ t (m : Int)).map D.int
          rw [nz_int]
          unfold succ
          rw [show (m : Int).toNat = m from rfl, hr]
      · rw [flat_int]
        have l36 : (last.flatMap (succ t)).length < 64 := by
          have h1 := flat_len (succ t) (fun e => succ_len hs e) last
          have h2 := Nat.mul_le_mul hl (Nat.le_refl n)
          have h3 := Nat.mul_le_mul hn hn
          omega
        have l6 : (sortI (dedI (last.flatMap (succ t)))).length ≤ n := range_len ((sortI_perm2 _).nodup_iff.mpr (dedI_nodup2 _)) fun x hx => by
          obtain ⟨e, _, h2⟩ := List.mem_flatMap.mp ((dedI_mem2 _).mp ((sortI_perm2 _).mem_iff.mp hx))
          exact succ_range hs h2
        (repeat walk_at "mi")
        refine w_comp (notH found) (w_iseq (w_fz (w_sortedSet ?_)))
        (repeat walk_at "mi")
        refine ⟨last.flatMap (succ t), rfl, l36, _, rfl, _, rfl, rfl, ?_, ?_, ?_⟩
        · rw [List.length_map]
          simp only [sizeLine]; omega
        · intro x hx
          obtain ⟨e, he, rfl⟩ := List.mem_map.mp hx
          (repeat walk_at "mi")
          refine w_cmpD ⟨!decide (e ∈ found), ?_, ?_⟩
          · show (inO _ (.int e) (.lst (found.map D.int))).map not = _
            rw [in_ints]
            rfl
          · by_cases h : e ∈ found
            · rw [decide_eq_true h]
              exact ⟨by show (if _ then _ else _) = _; rw [if_pos h], rfl⟩
            · rw [decide_eq_false h]
              (repeat walk_at "mi")
              exact ⟨by show (if _ then _ else _) = _; rw [if_neg h], rfl⟩
        · rw [not_eq]
          (repeat walk_at "mi")
          refine s_addL (b := nextL t found last) ?_ ?_
          · have h1 := range_len hnx.nd hnx.rng
            rw [List.length_append] at h1
            omega
          · (repeat walk_at "mi")
            exact ⟨_, hdec, rfl, _, _, _, _, rfl, hnx, rfl⟩
  · have : cm n [(i : Int)] [(i : Int)] ≤ n + 1 := by
      unfold cm
      split <;> omega
    exact Nat.lt_of_le_of_lt this (by show n + 1 < 1000000; omega)
  · refine ⟨by simp, by simp, fun x hx => hx, fun x hx => ?_, fun x hx => ?_, by simp, fun x hx hn => (hn hx).elim⟩
    · rw [List.mem_singleton.mp hx]
      exact ⟨Int.natCast_nonneg _, by omega⟩
    · rw [List.mem_singleton.mp hx]
      exact .refl
end Lw

namespace Lw
open PySem MI
theorem at_15 : Fs[15]? = some F_is_whole_table := rfl
open Classical in
noncomputable def wholeAt (n : Nat) (t : Tab) (i : Int) : Bool := decide (∀ j, inR0 n j → Reach t i j)
open Classical in
theorem wholeAt_of {n : Nat} {t : Tab} {i : Int} {L : List Int} (d : L.Nodup) (r : ∀ x ∈ L, inR0 n x) (m : ∀ x, x ∈ L ↔ Reach t i x) : ((L.length : Int) == (n : Int)) = wholeAt n t i := by
  unfold wholeAt
  by_cases h : ∀ j, inR0 n j → Reach t i j
  · rw [decide_eq_true h]
    have h1 := range_len d r
    have h2 : ((List.range n).map Int.ofNat).length ≤ L.length := List.Nodup.length_le_of_subset (List.Pairwise.map _ (fun a b hab e => hab (Int.ofNat.inj e)) List.nodup_range) fun x hx => by
      obtain ⟨k, hk, rfl⟩ := List.mem_map.mp hx
      exact (m _).mpr (h _ ⟨Int.natCast_nonneg _, by have := List.mem_range.mp hk; simp only [Int.ofNat_eq_natCast]; omega⟩)
    rw [List.length_map, List.length_range] at h2
    simp
    omega
  · rw [decide_eq_false h]
    have h3 : L.length ≠ n := fun e => h fun j hj => (m j).mp (by
      apply Classical.byContradiction
      intro hn
      have h4 : (j :: L).Nodup := List.nodup_cons.mpr ⟨hn, d⟩
      have h5 := range_len h4 fun x hx => by
        rcases List.mem_cons.mp hx with e | hx
        · rw [e]; exact hj
        · exact r x hx
      rw [List.length_cons] at h5
      omega)
    simp
    omega
theorem range_mem : ∀ (k : Nat) (lo : Int), ∀ x ∈ rangeL lo k, ∃ i : Nat, i < k ∧ x = .int (lo + i)
  | 0, _, x, h => by cases h
  | k + 1, lo, x, h => by
    rcases List.mem_cons.mp h with e | h
    · exact ⟨0, by omega, by rw [e]; simp⟩
    · obtain ⟨i, hi, e⟩ := range_mem k (lo + 1) x h
      exact ⟨i + 1, by omega, by rw [e]; congr 1; omega⟩
theorem range_len2 : ∀ (k : Nat) (lo : Int), (rangeL lo k).length = k
  | 0, _ => rfl
  | k + 1, lo => by
    show (rangeL (lo + 1) k).length + 1 = _
    exact congrArg (· + 1) (range_len2 k (lo + 1))
noncomputable def wholeB (n : Nat) (t : Tab) : Bool := (rangeL 0 n).all fun x => match x with | .int i => wholeAt n t i | _ => false
theorem ok_is_whole_table {k n : Nat} {t : Tab} {S : Sto} {Q : D → Sto → Prop} (hs : Sq n t) (hn : n ≤ 6) (q : Q (.bl (wholeB n t)) S) : Ok (callF Fs (k + 3) 15 [tabD t]) S Q := by
  with_reducible refine s_call at_15 (by with_unfolding_all rfl) ?_
  unfold F_is_whole_table
  dsimp only
  (repeat walk_at "mi")
  have hl : ((t.map rowD).length : Int) = n := by rw [List.length_map, hs.1]
  with_reducible refine w_all (fun x => match x with | .int i => wholeAt n t i | _ => false) ?_
  with_reducible refine w_range1 ?_
  (repeat walk_at "mi")
  refine ⟨n, by rw [hl], ?_, ?_⟩
  · unfold inR
    exact decide_eq_true (by omega)
  · refine ⟨rangeL 0 n, rfl, rfl, ?_, ?_, ?_⟩
    · rw [range_len2]
      simp only [sizeLine]; omega
    · intro x hx
      obtain ⟨i, hi, e⟩ := range_mem n 0 x hx
      have e : x = natD i := by rw [e]; show D.int _ = D.int _; congr 1; omega
      subst e
      (repeat walk_at "mi")
      refine ok_come_to hs hn hi fun L d r m => ?_
      (repeat walk_at "mi")
      refine ⟨?_, rfl⟩
      show D.bl (((L.map D.int).length : Int) == ((t.map rowD).length : Int)) = D.bl (wholeAt n t i)
      rw [hl, List.length_map, wholeAt_of d r m]
    · (repeat walk_at "mi")
      exact q
end Lw

/-! K14: what a table is; _law_is_joined. -/
namespace Lw
open PySem MI
structure TabOk (n : Nat) (t : Tab) : Prop where
  sq : Sq n t
  lo : 1 ≤ n
  hi : n ≤ 6
  fr : ∀ r ∈ t, ∀ p ∈ r, red p ∧ 0 ≤ p.1
theorem map_of {α β : Type} {f : β → α} {P : β → Prop} : ∀ xs : List α, (∀ x ∈ xs, ∃ y, x = f y ∧ P y) → ∃ ys : List β, xs = ys.map f ∧ ∀ y ∈ ys, P y
  | [], _ => ⟨[], rfl, fun _ h => by cases h⟩
  | x :: xs, h => by
    obtain ⟨y, e, p⟩ := h x List.mem_cons_self
    obtain ⟨ys, e2, p2⟩ := map_of xs fun z hz => h z (List.mem_cons_of_mem _ hz)
    refine ⟨y :: ys, by rw [e, e2]; rfl, fun z hz => ?_⟩
    rcases List.mem_cons.mp hz with e3 | hz
    · rw [e3]; exact p
    · exact p2 z hz
theorem fr_of {d : D} (h : isFr d = true) (h2 : numOk d = true) : ∃ p, d = pd p ∧ red p ∧ 0 ≤ p.1 := by
  unfold isFr at h
  split at h
  · rename_i a b
    obtain ⟨h3, h4⟩ := Bool.and_eq_true_iff.mp h
    have h5 := of_decide_eq_true h3
    have h6 := of_decide_eq_true h2
    refine ⟨(a, b), rfl, ⟨h5, ?_⟩, h6⟩
    have : ((Nat.gcd a.natAbs b.natAbs : Nat) : Int) = 1 := by simpa using h4
    exact Int.ofNat.inj this
  · cases h
theorem fr_to {p : Int × Int} (h : red p) (h0 : 0 ≤ p.1) : isFr (pd p) = true ∧ numOk (pd p) = true := by
  obtain ⟨a, b⟩ := p
  refine ⟨?_, decide_eq_true h0⟩
  show (decide (0 < b) && (((Nat.gcd a.natAbs b.natAbs : Nat) : Int) == 1)) = true
  rw [decide_eq_true h.1, show Nat.gcd a.natAbs b.natAbs = 1 from h.2]
  rfl
theorem row_of {d : D} {n : Nat} (h : isRow d n = true) (h2 : rowNum d = true) : ∃ r, d = rowD r ∧ r.length = n ∧ ∀ p ∈ r, red p ∧ 0 ≤ p.1 := by
  cases d with
  | tup xs =>
    have h : (((xs.length : Int) == (n : Int)) && xs.all isFr) = true := h
    obtain ⟨h3, h4⟩ := Bool.and_eq_true_iff.mp h
    have h5 : xs.length = n := by have : (xs.length : Int) = n := by simpa using h3
                                  omega
    have h2 : xs.all numOk = true := h2
    obtain ⟨r, e, p⟩ := map_of (f := pd) (P := fun p => red p ∧ 0 ≤ p.1) xs fun x hx => fr_of (List.all_eq_true.mp h4 x hx) (List.all_eq_true.mp h2 x hx)
    refine ⟨r, by rw [e]; rfl, ?_, p⟩
    rw [← h5, e, List.length_map]
  | _ => cases h
theorem row_to {r : List (Int × Int)} (h : ∀ p ∈ r, red p ∧ 0 ≤ p.1) : isRow (rowD r) r.length = true ∧ rowNum (rowD r) = true := by
  constructor
  · show ((((r.map pd).length : Int) == (r.length : Int)) && (r.map pd).all isFr) = true
    rw [List.length_map]
    refine Bool.and_eq_true_iff.mpr ⟨by simp, List.all_eq_true.mpr fun x hx => ?_⟩
    obtain ⟨p, hp, rfl⟩ := List.mem_map.mp hx
    exact (fr_to (h p hp).1 (h p hp).2).1
  · show (r.map pd).all numOk = true
    refine List.all_eq_true.mpr fun x hx => ?_
    obtain ⟨p, hp, rfl⟩ := List.mem_map.mp hx
    exact (fr_to (h p hp).1 (h p hp).2).2
theorem tab_of {d : D} (h : isTable d = true) : ∃ n t, d = tabD t ∧ TabOk n t := by
  cases d with
  | tup xs =>
    rw [isTable_eq] at h
    obtain ⟨h3, h4⟩ := Bool.and_eq_true_iff.mp h
    obtain ⟨h5, h6⟩ := of_decide_eq_true h3
    obtain ⟨t, e, p⟩ := map_of (f := rowD) (P := fun r => r.length = xs.length ∧ ∀ p ∈ r, red p ∧ 0 ≤ p.1) xs fun x hx => by
      have := List.all_eq_true.mp h4 x hx
      obtain ⟨h7, h8⟩ := Bool.and_eq_true_iff.mp this
      exact row_of h7 h8
    have hl : t.length = xs.length := by rw [e, List.length_map]
    exact ⟨t.length, t, by rw [e]; rfl, ⟨rfl, fun r hr => by rw [(p r hr).1, hl]⟩, by omega, by omega, fun r hr => (p r hr).2⟩
  | _ => cases h
theorem tab_to {n : Nat} {t : Tab} (h : TabOk n t) : isTable (tabD t) = true := by
  show isTable (.tup (t.map rowD)) = true
  have l := h.sq.1
  have l1 := h.lo
  have l2 := h.hi
  rw [isTable_eq, List.length_map]
  refine Bool.and_eq_true_iff.mpr ⟨decide_eq_true (by omega), List.all_eq_true.mpr fun x hx => ?_⟩
  obtain ⟨r, hr, rfl⟩ := List.mem_map.mp hx
  obtain ⟨h1, h2⟩ := row_to (h.fr r hr)
  rw [h2, l, ← h.sq.2 r hr, h1]
  rfl
/-! ### steps -/
theorem nzF_mem : ∀ (r : List (Int × Int)) (k x : Nat), x ∈ nzF k r ↔ k ≤ x ∧ ∃ p, r[x - k]? = some p ∧ (p.1 == 0 && p.2 == 1) = false
  | [], k, x => by simp [nzF]
  | p :: r, k, x => by
    unfold nzF
    have ih := nzF_mem r (k + 1) x
    rcases Nat.lt_trichotomy x k with l | l | l
    · split
      · rw [ih]; constructor
        · intro ⟨h, _⟩; omega
        · intro ⟨h, _⟩; omega
      · rw [List.mem_cons, ih]; constructor
        · intro h
          rcases h with h | ⟨h, _⟩ <;> omega
        · intro ⟨h, _⟩; omega
    · subst l
      rw [Nat.sub_self]
      split
      · rename_i h
        rw [ih]; constructor
        · intro ⟨h, _⟩; omega
        · intro ⟨_, q, e, h2⟩
          cases (show some p = some q from e)
          rw [h] at h2; cases h2
      · rename_i h
        rw [List.mem_cons]
        exact ⟨fun _ => ⟨Nat.le_refl _, p, rfl, by simpa using h⟩, fun _ => .inl rfl⟩
    · have e : x - k = (x - (k + 1)) + 1 := by omega
      rw [e, List.getElem?_cons_succ]
      split
      · rw [ih]; constructor
        · intro ⟨_, h⟩; exact ⟨by omega, h⟩
        · intro ⟨_, h⟩; exact ⟨by omega, h⟩
      · rw [List.mem_cons, ih]; constructor
        · intro h
          rcases h with h | ⟨_, h⟩
          · omega
          · exact ⟨by omega, h⟩
        · intro ⟨_, h⟩; exact .inr ⟨by omega, h⟩
theorem nz_pos {p : Int × Int} (h : red p) (h0 : 0 ≤ p.1) : (p.1 == 0 && p.2 == 1) = false ↔ 0 < p.1 := by
  obtain ⟨a, b⟩ := p
  obtain ⟨h1, h2⟩ := h
  dsimp only at *
  constructor
  · intro h3
    rcases Int.lt_or_eq_of_le h0 with l | l
    · exact l
    · subst l
      have h4 : b = 1 := by
        have : Nat.gcd (0 : Int).natAbs b.natAbs = b.natAbs := Nat.gcd_zero_left _
        omega
      subst h4
      cases h3
  · intro h3
    have : (a == 0) = false := by simp; omega
    rw [this]; rfl
theorem succ_mem {n : Nat} {t : Tab} (h : TabOk n t) {e x : Nat} {r : List (Int × Int)} {p : Int × Int} (hr : t[e]? = some r) (hp : r[x]? = some p) : ((x : Int) ∈ succ t (e : Int)) ↔ 0 < p.1 := by
  have h1 := h.fr r (List.mem_of_getElem? hr) p (List.mem_of_getElem? hp)
  rw [← nz_pos h1.1 h1.2]
  unfold succ
  rw [show (e : Int).toNat = e from rfl, hr]
  show (x : Int) ∈ (nzF 0 r).map Int.ofNat ↔ _
  constructor
  · intro hx
    obtain ⟨y, hy, ey⟩ := List.mem_map.mp hx
    have : y = x := Int.ofNat.inj ey
    subst this
    obtain ⟨_, q, e2, h2⟩ := (nzF_mem r 0 y).mp hy
    rw [Nat.sub_zero, hp] at e2
    cases e2
    exact h2
  · intro h2
    exact List.mem_map.mpr ⟨x, (nzF_mem r 0 x).mpr ⟨Nat.zero_le _, p, by rw [Nat.sub_zero]; exact hp, h2⟩, rfl⟩
structure CJ (n : Nat) (t : Tab) (i : Int) (k : Nat) (met : List Int) : Prop where
  nd : met.Nodup
  rng : ∀ x ∈ met, inR0 n x
  rch : ∀ x ∈ met, Reach t i x
  has : i ∈ met
  clo : ∀ j, j < k → ∀ x, met[j]? = some x → ∀ y ∈ succ t x, y ∈ met
def gain (n : Nat) (t : Tab) (here : Int) (met : List Int) : List Int := ((List.range n).map Int.ofNat).filter fun x => decide (x ∈ succ t here) && !decide (x ∈ met)
theorem gain_mem {n : Nat} {t : Tab} (hs : Sq n t) {here x : Int} {met : List Int} : x ∈ gain n t here met ↔ x ∈ succ t here ∧ x ∉ met := by
  unfold gain
  rw [List.mem_filter]
  constructor
  · intro ⟨_, h⟩
    simpa using h
  · intro h
    obtain ⟨a, b⟩ := succ_range hs h.1
    exact ⟨List.mem_map.mpr ⟨x.toNat, List.mem_range.mpr (by omega), by simp only [Int.ofNat_eq_natCast]; omega⟩, by simpa using h⟩
theorem gain_nodup {n : Nat} {t : Tab} {here : Int} {met : List Int} : (gain n t here met).Nodup :=
  List.Pairwise.filter _ (List.Pairwise.map _ (fun a b hab e => hab (Int.ofNat.inj e)) List.nodup_range)
theorem CJ.next {n k : Nat} {t : Tab} {i here : Int} {met : List Int} (hs : Sq n t) (c : CJ n t i k met) (hk : met[k]? = some here) : CJ n t i (k + 1) (met ++ gain n t here met) := by
  have hm : here ∈ met := List.mem_of_getElem? hk
  have lk : k < met.length := (List.getElem?_eq_some_iff.mp hk).1
  refine ⟨List.nodup_append.mpr ⟨c.nd, gain_nodup, fun a ha b hb e => ((gain_mem hs).mp hb).2 (e ▸ ha)⟩, ?_, ?_, List.mem_append.mpr (.inl c.has), ?_⟩
  · intro x hx
    rcases List.mem_append.mp hx with h | h
    · exact c.rng x h
    · exact succ_range hs ((gain_mem hs).mp h).1
  · intro x hx
    rcases List.mem_append.mp hx with h | h
    · exact c.rch x h
    · exact (c.rch here hm).step ((gain_mem hs).mp h).1
  · intro j hj x hx y hy
    rw [List.getElem?_append_left (by omega)] at hx
    rcases Nat.lt_or_ge j k with l | l
    · exact List.mem_append.mpr (.inl (c.clo j l x hx y hy))
    · have : j = k := by omega
      subst this
      rw [hk] at hx
      cases hx
      by_cases h : y ∈ met
      · exact List.mem_append.mpr (.inl h)
      · exact List.mem_append.mpr (.inr ((gain_mem hs).mpr ⟨hy, h⟩))
theorem CJ.skip {n k : Nat} {t : Tab} {i : Int} {met : List Int} (c : CJ n t i k met) (hk : met.length ≤ k) : CJ n t i (k + 1) met := by
  refine ⟨c.nd, c.rng, c.rch, c.has, fun j hj x hx y hy => ?_⟩
  have := (List.getElem?_eq_some_iff.mp hx).1
  exact c.clo j (by omega) x hx y hy
theorem CJ.done {n k : Nat} {t : Tab} {i : Int} {met : List Int} (c : CJ n t i k met) (hk : met.length ≤ k) (x : Int) : x ∈ met ↔ Reach t i x := by
  refine ⟨c.rch x, fun h => ?_⟩
  induction h with
  | refl => exact c.has
  | step _ h2 ih =>
    obtain ⟨j, hj, e⟩ := List.getElem_of_mem ih
    exact c.clo j (by omega) _ (by rw [List.getElem?_eq_getElem hj, e]) _ h2
theorem rangeL_nats (n : Nat) : ∀ k : Nat, rangeL (k : Int) n = (List.range' k n).map natD := by
  induction n with
  | zero => intro k; rfl
  | succ n ih =>
    intro k
    show D.int (k : Int) :: rangeL ((k : Int) + 1) n = _
    rw [List.range'_succ, List.map_cons, ← ih (k + 1)]
    rfl
theorem rangeL_succ {k n : Nat} {x : D} {xs : List D} (h : x :: xs = rangeL (k : Int) (n - k)) : k < n ∧ x = natD k ∧ xs = rangeL ((k + 1 : Nat) : Int) (n - (k + 1)) := by
  rcases Nat.lt_or_ge k n with l | l
  · have e : n - k = (n - (k + 1)) + 1 := by omega
    rw [e] at h
    have h : x :: xs = D.int (k : Int) :: rangeL ((k : Int) + 1) (n - (k + 1)) := h
    obtain ⟨h1, h2⟩ := List.cons.inj h
    exact ⟨l, h1, h2⟩
  · have e : n - k = 0 := by omega
    rw [e] at h
    cases h
theorem rangeL_nil {k n : Nat} (h : ([] : List D) = rangeL (k : Int) (n - k)) (l : k ≤ n) : k = n := by
  rcases Nat.lt_or_ge k n with l | l
  · have e : n - k = (n - (k + 1)) + 1 := by omega
    rw [e] at h
    cases h
  · omega
theorem wholeB_iff {n : Nat} {t : Tab} : wholeB n t = true ↔ ∀ i : Nat, i < n → wholeAt n t i = true := by
  unfold wholeB
  rw [List.all_eq_true]
  constructor
  · intro h i hi
    refine h (.int i) ?_
    have : (0 : Int) = ((0 : Nat) : Int) := rfl
    rw [this, rangeL_nats]
    exact List.mem_map.mpr ⟨i, List.mem_range'_1.mpr ⟨Nat.zero_le _, by omega⟩, rfl⟩
  · intro h x hx
    obtain ⟨i, hi, rfl⟩ := range_mem n 0 x hx
    have : (0 : Int) + i = i := by omega
    show wholeAt n t (0 + i) = true
    rw [this]
    exact h i hi
def gainH (t : Tab) (here : Int) (met : List Int) (x : D) : Option D := match x with
  | .int e => if e ∈ succ t here ∧ e ∉ met then some (.int e) else none
  | _ => none
theorem gain_eq (t : Tab) (here : Int) (met : List Int) : ∀ xs : List Nat, (xs.map natD).filterMap (gainH t here met) = ((xs.map Int.ofNat).filter fun x => decide (x ∈ succ t here) && !decide (x ∈ met)).map D.int
  | [] => rfl
  | x :: xs => by
    rw [List.map_cons, List.map_cons]
    by_cases h : (x : Int) ∈ succ t here ∧ (x : Int) ∉ met
    · rw [List.filterMap_cons_some (b := .int x) (by show (if _ then _ else _) = _; rw [if_pos h]), gain_eq t here met xs, List.filter_cons_of_pos (by simpa using h)]
      rfl
    · rw [List.filterMap_cons_none (by show (if _ then _ else _) = _; rw [if_neg h]), gain_eq t here met xs, List.filter_cons_of_neg (by simpa using h)]
end Lw

/-! K15: is_walk and the law's own look tell the same. -/
namespace Lw
open PySem MI
theorem at_16 : Fs[16]? = some F_is_walk_by := rfl
/-! no whole number in it is longer than n bits -/
mutual
def inD (n : Nat) : D → Prop
  | .int i => i.natAbs < 2 ^ n
  | .tup xs => inDs n xs
  | .lst xs => inDs n xs
  | _ => True
def inDs (n : Nat) : List D → Prop
  | [] => True
  | x :: xs => inD n x ∧ inDs n xs
end
theorem inDs_iff {n : Nat} : ∀ {xs : List D}, inDs n xs ↔ ∀ x ∈ xs, inD n x
  | [] => ⟨fun _ _ h => (nomatch h), fun _ => trivial⟩
  | y :: ys => by
    rw [List.forall_mem_cons, ← inDs_iff (xs := ys)]
    exact Iff.rfl
theorem inD_tup {n : Nat} {xs : List D} : inD n (.tup xs) ↔ ∀ x ∈ xs, inD n x := inDs_iff
theorem tabB_of {d : D} (h : inD 600 d) : tabB d := by
  intro xs e r hr ys e2 x hx a b e3
  subst e e2 e3
  have h1 := inD_tup.mp (inD_tup.mp (inD_tup.mp h _ hr) _ hx)
  have h2 : a.natAbs < 2 ^ 600 := h1 (.int a) (by simp)
  have h3 : b.natAbs < 2 ^ 600 := h1 (.int b) (by simp)
  have up : (2 : Nat) ^ 600 ≤ 2 ^ 5000 := Nat.pow_le_pow_right (by omega) (by omega)
  exact ⟨Nat.lt_of_lt_of_le h2 up, Nat.lt_of_lt_of_le h3 up⟩
theorem tab_fB {n : Nat} {t : Tab} (ht : TabOk n t) (h : inD 600 (tabD t)) : ∀ r ∈ t, ∀ p ∈ r, fB 600 p := by
  intro r hr p hp
  have h1 := inD_tup.mp (inD_tup.mp (inD_tup.mp h (rowD r) (List.mem_map.mpr ⟨r, hr, rfl⟩)) (pd p) (List.mem_map.mpr ⟨p, hp, rfl⟩))
  exact ⟨(ht.fr r hr p hp).1.1, h1 (.int p.1) (by simp), h1 (.int p.2) (by simp)⟩
def pairOf : D → Int × Int
  | .tup [.int a, .int b] => (a, b)
  | _ => (0, 1)
def rowOf : D → List (Int × Int)
  | .tup xs => xs.map pairOf
  | _ => []
def tabOf : D → Tab
  | .tup xs => xs.map rowOf
  | _ => []
theorem rowOf_row (r : List (Int × Int)) : rowOf (rowD r) = r := by
  show (r.map pd).map pairOf = r
  rw [List.map_map]
  exact List.map_id'' (fun _ => rfl) r
theorem tabOf_tab (t : Tab) : tabOf (tabD t) = t := by
  show (t.map rowD).map rowOf = t
  rw [List.map_map]
  exact List.map_id'' (fun r => rowOf_row r) t
def sumsOk (t : Tab) : Bool := t.all fun r => (sumF r).1 == 1 && (sumF r).2 == 1
noncomputable def isWalk (d : D) : Bool := isTable d && (sumsOk (tabOf d) && wholeB (tabOf d).length (tabOf d))
theorem ok_is_walk_by {k : Nat} {d : D} {S : Sto} {Q : D → Sto → Prop} (hd : pureD d = true) (hi : inD 600 d) (q : Q (.bl (isWalk d)) S) : Ok (callF Fs (k + 5) 16 [d]) S Q := by
  with_reducible refine s_call at_16 (by with_unfolding_all rfl) ?_
  unfold F_is_walk_by
  dsimp only
  (repeat walk_at "mi")
  with_reducible refine ok_is_table hd ?_
  (repeat walk_at "mi")
  cases h : isTable d with
  | false =>
    unfold isWalk at q
    rw [h] at q
    (repeat walk_at "mi")
    exact q
  | true =>
    unfold isWalk at q
    rw [h] at q
    obtain ⟨n, t, rfl, ht⟩ := tab_of h
    have hb := tab_fB ht hi
    have hhi := ht.hi
    have hlo := ht.lo
    rw [tabOf_tab, ht.sq.1] at q
    (repeat walk_at "mi")
    with_reducible refine w_all (fun x => (sumF (rowOf x)).1 == 1 && (sumF (rowOf x)).2 == 1) (w_iseq ?_)
    (repeat walk_at "mi")
    refine ⟨t.map rowD, rfl, rfl, ?_, fun x hx => ?_, ?_⟩
    · rw [List.length_map, ht.sq.1]
      simp only [sizeLine]; omega
    · obtain ⟨r, hr, rfl⟩ := List.mem_map.mp hx
      have hrl := ht.sq.2 r hr
      (repeat walk_at "mi")
      with_reducible refine ok_total (B := 600) (fs := r) (by with_unfolding_all rfl) (hb r hr) ?_ ?_
      · have := Nat.mul_le_mul (show r.length ≤ 6 by omega) (Nat.le_refl 601)
        show 1 + r.length * 601 < 8900
        omega
      · unfold pd
        (repeat walk_at "mi")
        rw [eqv_pair, rowOf_row]
        exact ⟨rfl, rfl⟩
    · have e : (t.map rowD).all (fun x => (sumF (rowOf x)).1 == 1 && (sumF (rowOf x)).2 == 1) = sumsOk t := by
        rw [List.all_map]
        unfold sumsOk
        congr 1
        funext r
        show ((sumF (rowOf (rowD r))).1 == 1 && (sumF (rowOf (rowD r))).2 == 1) = _
        rw [rowOf_row]
      rw [e]
      (repeat walk_at "mi")
      cases h2 : sumsOk t with
      | false =>
        rw [h2] at q
        (repeat walk_at "mi")
        exact q
      | true =>
        rw [h2] at q
        (repeat walk_at "mi")
        with_reducible refine ok_is_whole_table ht.sq hhi ?_
        (repeat walk_at "mi")
        exact q
def badS (x : D) : Option D := if ((sumF (rowOf x)).1 == 1 && (sumF (rowOf x)).2 == 1) = true then none else some x
end Lw

/-! K16: the well, what is picked out of it. -/
namespace MI
open PySem
section
variable {f g : ME} {c : Call} {ρ : Env} {S : Sto}
theorem w_slice {l h : Call → Env → M (Option Int)} {Q : D → Sto → Prop} (q : Ok (f c ρ) S fun a S1 => Ok (l c ρ) S1 fun i S2 => Ok (h c ρ) S2 fun j S3 => Ok (slice a i j) S3 Q) : Ok (eSlice f l h c ρ) S Q := by
  simp only [eSlice, ok_bind]
  exact q
theorem w_onone {Q : Option Int → Sto → Prop} (q : Q none S) : Ok (oNone c ρ) S Q := q
theorem w_osome {Q : Option Int → Sto → Prop} (q : Ok (f c ρ) S fun d S1 => ∃ i, some d = some (.int i) ∧ Q (some i) S1) : Ok (oSome f c ρ) S Q := by
  simp only [oSome, ok_bind]
  refine q.mono fun d S1 ⟨i, e, q⟩ => ?_
  cases e
  exact q
theorem s_slice {a : D} {lo hi : Option Int} {Q : D → Sto → Prop} (q : ∃ d, sliceO S a lo hi = some d ∧ Q d S) : Ok (slice a lo hi) S Q := by
  obtain ⟨d, e, q⟩ := q
  exact s_opt e q
theorem w_gsub {d : D} {Q : Env → Sto → Prop} (q : Ok (f c ρ) S fun a S1 => Ok (g c ρ) S1 fun i S2 => Ok (setItem a i d) S2 fun _ S3 => Q ρ S3) : Ok (gSub f g c d ρ) S Q := by
  simp only [gSub, ok_bind, ok_pure]
  exact q
theorem s_set {n j : Nat} {xs : List D} {k : Int} {v : D} {Q : Unit → Sto → Prop} (h : S[n]? = some (.lst xs)) (hj : L2.ixN xs.length k = some j) (hp : pureL (xs.set j v) = true) (q : Q () (S.set n (.lst (xs.set j v)))) : Ok (setItem (.loc n) (.int k) v) S Q := by
  unfold setItem
  refine s_bind (s_opt (a := (n, xs)) (by show (match S[n]? with | some (.lst xs) => some (n, xs) | _ => none) = _; rw [h]) ?_)
  refine s_bind (s_ofO (a := j) hj ?_)
  unfold Ok putL
  rw [hp]
  exact q
theorem s_new {xs : List D} {Q : D → Sto → Prop} (hp : pureL xs = true) (q : Q (.loc S.length) (S ++ [.lst xs])) : Ok (newL xs) S Q := by
  unfold Ok newL
  rw [hp]
  exact q
end
theorem s_finE {base : Nat} {d : D} {S : Sto} {Q : D → Sto → Prop} (hl : S.length = base) (hd : pureD d = true) (q : Q d S) : Ok (finish true base d) S Q := by
  rw [← hl]
  exact s_fin hd q
theorem s_finT {base : Nat} {d : D} {S : Sto} {Q : D → Sto → Prop} (hd : pureD d = true) (q : Q d (S.take base)) : Ok (finish true base d) S Q := by
  rw [ok_finT, fz_pure _ _ _ hd]
  exact ⟨d, rfl, q⟩
theorem s_finF {base : Nat} {d : D} {S : Sto} {Q : D → Sto → Prop} (q : Q d S) : Ok (finish false base d) S Q := q
theorem s_divmod {i j : Int} {S : Sto} {Q : D → Sto → Prop} (h : 0 < j) (l : j.natAbs < 2 ^ 9000) (q : Q (.tup [.int (i / j), .int (i % j)]) S) : Ok (divmodD [.int i, .int j]) S Q := by
  have h1 := divOk_of (a := i) (b := j) (by omega) l
  unfold divOk at h1
  obtain ⟨_, h2⟩ := Bool.and_eq_true_iff.mp h1
  show Ok (M.bind (chk (decide (0 < j) && !Builtin.divisionGoesByPylong i j)) fun _ => M.pure (.tup [.int (i / j), .int (i % j)])) S Q
  refine s_bind (s_chk ?_ q)
  rw [h2, decide_eq_true h]
  rfl
theorem s_catL {a b : D} {xs ys : List D} {S : Sto} {Q : D → Sto → Prop} (ha : isList a = true) (h1 : litemsO S a = some xs) (h2 : litemsO S b = some ys) (l : xs.length + ys.length ≤ 1000) (q : Q (.lst (xs ++ ys)) S) : Ok (addA a b) S Q := by
  unfold addA
  rw [ha]
  show Ok (M.bind (catL a b) fun xs => M.pure (.lst xs)) S Q
  refine s_bind ?_
  unfold catL
  refine s_bind (s_opt (a := xs) h1 ?_)
  refine s_bind (s_opt (a := ys) h2 ?_)
  refine s_bind (s_chk ?_ ?_)
  · exact decide_eq_true (by simp only [sizeLine]; omega)
  · exact s_pure (s_pure q)
theorem s_pow10 {S : Sto} {Q : D → Sto → Prop} (q : Q (.int (10 ^ 18)) S) : Ok (powD (.int 10) (.int 18)) S Q := by
  show Ok (M.bind (chk (decide ((0 : Int) ≤ 18 ∧ (18 : Int) ≤ 1000 ∧ (10 : Int).natAbs < 2 ^ 64))) fun _ => M.pure (.int ((10 : Int) ^ (18 : Int).toNat))) S Q
  exact s_bind (s_chk (by decide) q)
theorem lenO_items {S : Sto} {d : D} {xs : List D} (h : itemsO S d = some xs) : lenO S d = some (.int xs.length) := by
  cases d with
  | tup ys => cases h; rfl
  | lst ys => cases h; rfl
  | loc n =>
    show (itemsO S (.loc n)).map _ = _
    rw [h]; rfl
  | _ => cases h
theorem itemO_items {S : Sto} {d : D} {xs : List D} {k : Int} (h : itemsO S d = some xs) : itemO S d (.int k) = L2.atI xs k := by
  cases d with
  | tup ys => cases h; rfl
  | lst ys => cases h; rfl
  | loc n =>
    show (itemsO S (.loc n)).bind _ = _
    rw [h]; rfl
  | _ => cases h
end MI
namespace Lw
open PySem MI
theorem at_28 : Fs[28]? = some F__law_well := rfl
theorem at_29 : Fs[29]? = some F__law_pick := rfl
theorem at_30 : Fs[30]? = some F__law_of := rfl
def Wd (n : Nat) (w : List D) : Prop := ∃ (ds : List Int) (s c : Int), w = [.lst (ds.map .int), .int s, .int c] ∧ ds.length ≤ 63 ∧ (∀ d ∈ ds, 0 ≤ d) ∧ 0 ≤ s ∧ s < 2147483647 ∧ 0 ≤ c ∧ c ≤ n
theorem Wd.up {n m : Nat} {w : List D} (h : Wd n w) (l : n ≤ m) : Wd m w := by
  obtain ⟨ds, s, c, e, h1, h2, h3, h4, h5, h6⟩ := h
  exact ⟨ds, s, c, e, h1, h2, h3, h4, h5, by omega⟩
theorem small {a : Int} {n m : Nat} (h : a.natAbs < 2 ^ n) (l : n ≤ m) : a.natAbs < 2 ^ m := Nat.lt_of_lt_of_le h (Nat.pow_le_pow_right (by omega) l)
theorem mul_small {a b : Int} (h : a.natAbs < 2 ^ 64) (l : b.natAbs < 2 ^ 64) : mulOk a b = true := mulOk_of (small h (by omega)) (small l (by omega))
theorem pure_w (ds : List Int) (s c : Int) : pureL [.lst (ds.map .int), .int s, .int c] = true := by
  show (pureL (ds.map D.int) && _) = true
  rw [pure_ints]
  rfl
theorem s_w0 {ds ds' : List Int} {s c : Int} {R : Sto} {Q : Unit → Sto → Prop} (q : Q () (.lst [.lst (ds'.map .int), .int s, .int c] :: R)) : Ok (setItem (.loc 0) (.int 0) (.lst (ds'.map .int))) (.lst [.lst (ds.map .int), .int s, .int c] :: R) Q := s_set (xs := [.lst (ds.map .int), .int s, .int c]) (j := 0) rfl rfl (pure_w ds' s c) q
theorem s_w1 {ds : List Int} {s c s' : Int} {R : Sto} {Q : Unit → Sto → Prop} (q : Q () (.lst [.lst (ds.map .int), .int s', .int c] :: R)) : Ok (setItem (.loc 0) (.int 1) (.int s')) (.lst [.lst (ds.map .int), .int s, .int c] :: R) Q := s_set (xs := [.lst (ds.map .int), .int s, .int c]) (j := 1) rfl rfl (pure_w ds s' c) q
theorem s_w2 {ds : List Int} {s c c' : Int} {R : Sto} {Q : Unit → Sto → Prop} (q : Q () (.lst [.lst (ds.map .int), .int s, .int c'] :: R)) : Ok (setItem (.loc 0) (.int 2) (.int c')) (.lst [.lst (ds.map .int), .int s, .int c] :: R) Q := s_set (xs := [.lst (ds.map .int), .int s, .int c]) (j := 2) rfl rfl (pure_w ds s c') q
theorem cut_len {α : Type} (xs : List α) (lo hi : Option Int) : (cut xs lo hi).length ≤ xs.length := by
  unfold cut
  rw [List.length_take, List.length_drop]
  omega
theorem s_intO {i : Int} {S : Sto} {Q : D → Sto → Prop} (q : Q (.int i) S) : Ok (b1 intO [.int i]) S Q := w_b1 ⟨_, rfl, q⟩
def digH (x : D) : Option D := match x with
  | .int i => if i < 0 ∨ 10 ^ 18 ≤ i then some (.int (if i < 0 then -i else i)) else none
  | _ => none
theorem dig_eq : ∀ ns : List Int, ∃ ds : List Int, (ns.map D.int).filterMap digH = ds.map D.int ∧ ds.length ≤ ns.length ∧ ∀ d ∈ ds, 0 ≤ d
  | [] => ⟨[], rfl, Nat.le_refl _, fun _ h => by cases h⟩
  | n :: ns => by
    obtain ⟨ds, e, l, p⟩ := dig_eq ns
    rw [List.map_cons]
    by_cases h : n < 0 ∨ 10 ^ 18 ≤ n
    · refine ⟨(if n < 0 then -n else n) :: ds, ?_, by simp; omega, fun d hd => ?_⟩
      · rw [List.filterMap_cons_some (b := .int (if n < 0 then -n else n)) (by show (if _ then _ else _) = _; rw [if_pos h]), e]
        rfl
      · rcases List.mem_cons.mp hd with e2 | hd
        · rw [e2]; split <;> omega
        · exact p d hd
    · refine ⟨ds, ?_, by simp; omega, p⟩
      rw [List.filterMap_cons_none (by show (if _ then _ else _) = _; rw [if_neg h]), e]
theorem ok_law_well {k : Nat} {ns : List Int} {salt : Int} {S : Sto} {Q : D → Sto → Prop} (hl : ns.length ≤ 63) (h0 : 0 ≤ salt) (h1 : salt < 100) (q : ∀ w, Wd 0 w → Q (.loc S.length) (S ++ [.lst w])) : Ok (callF Fs (k + 1) 28 [.scr ns, .int salt]) S Q := by
  with_reducible refine s_call at_28 (by with_unfolding_all rfl) ?_
  unfold F__law_well
  dsimp only
  (repeat walk_at "mi")
  with_reducible refine s_mul (mul_small (by decide) (by omega)) ?_
  (repeat walk_at "mi")
  with_reducible refine w_for (w_iseq (w_slice ?_))
  (repeat walk_at "mi")
  with_reducible refine w_onone (w_osome ?_)
  (repeat walk_at "mi")
  refine ⟨63, rfl, ?_⟩
  have hc : (cut ns none (some 63)).length ≤ 63 := Nat.le_trans (cut_len _ _ _) hl
  with_reducible refine s_slice ⟨_, by with_unfolding_all rfl, ?_⟩
  generalize cut ns none (some 63) = cs at hc
  refine ⟨cs.map D.int, rfl, _, rfl, ?_⟩
  refine ok_forFix (fun xs ρ S1 => S1 = S ∧ ∃ rest : List Int, ∃ s : Int, ∃ o, xs = rest.map D.int ∧ ρ = [some (.scr ns), some (.int salt), some (.int s), o] ∧ 0 ≤ s ∧ s < 2147483647) _ _ S ⟨rfl, cs, 40129 + 1013 * salt, none, rfl, rfl, by omega, by omega⟩ ?_ ?_
  · intro x xs ρ S1 ⟨e1, rest, s, o, e2, e3, h2, h3⟩
    subst e1 e3
    cases rest with
    | nil => cases e2
    | cons y ys =>
      obtain ⟨rfl, rfl⟩ := List.cons.inj e2
      (repeat walk_at "mi")
      with_reducible refine s_mul (mul_small (by omega) (by decide)) ?_
      (repeat walk_at "mi")
      with_reducible refine s_mod (by decide) ?_
      have m1 := Int.fmod_nonneg_of_pos y (b := 2147483587) (by omega)
      have m2 := Int.fmod_lt_of_pos y (b := 2147483587) (by omega)
      (repeat walk_at "mi")
      with_reducible refine s_mul (mul_small (by omega) (by decide)) ?_
      (repeat walk_at "mi")
      with_reducible refine s_mod (by decide) ?_
      (repeat walk_at "mi")
      refine ⟨rfl, ys, _, _, rfl, rfl, ?_, ?_⟩
      · exact Int.fmod_nonneg_of_pos _ (by omega)
      · exact Int.fmod_lt_of_pos _ (by omega)
  · intro ρ S1 ⟨e1, rest, s, o, e2, e3, h2, h3⟩
    subst e1 e3
    (repeat walk_at "mi")
    with_reducible refine w_comp digH (w_iseq (w_slice ?_))
    (repeat walk_at "mi")
    with_reducible refine w_onone (w_osome ?_)
    (repeat walk_at "mi")
    refine ⟨63, rfl, ?_⟩
    have hc : (cut ns none (some 63)).length ≤ 63 := Nat.le_trans (cut_len _ _ _) hl
    with_reducible refine s_slice ⟨_, by with_unfolding_all rfl, ?_⟩
    generalize cut ns none (some 63) = cs at hc
    refine ⟨cs.map D.int, rfl, _, rfl, rfl, ?_, ?_, ?_⟩
    · rw [List.length_map]
      simp only [sizeLine]; omega
    · intro x hx
      obtain ⟨i, hi, rfl⟩ := List.mem_map.mp hx
      (repeat walk_at "mi")
      by_cases g1 : i < 0
      · rw [decide_eq_true g1]
        (repeat walk_at "mi")
        exact ⟨by show (if _ then _ else _) = _; rw [if_pos (.inl g1)], rfl⟩
      · rw [decide_eq_false g1]
        (repeat walk_at "mi")
        with_reducible refine s_pow10 ?_
        (repeat walk_at "mi")
        by_cases g2 : (10 : Int) ^ 18 ≤ i
        · rw [decide_eq_true g2]
          (repeat walk_at "mi")
          exact ⟨by show (if _ then _ else _) = _; rw [if_pos (.inr g2)], rfl⟩
        · rw [decide_eq_false g2]
          exact ⟨by show (if _ then _ else _) = _; rw [if_neg (by omega)], rfl⟩
    · obtain ⟨ds, e, l, p⟩ := dig_eq cs
      rw [e]
      (repeat walk_at "mi")
      with_reducible refine s_new (pure_w ds s 0) ?_
      (repeat walk_at "mi")
      with_reducible refine s_finF ?_
      exact q _ ⟨ds, s, 0, rfl, by omega, p, h2, h3, Int.le_refl _, by omega⟩
theorem ok_law_pick {k n : Nat} {w : List D} {R : Sto} {lim : Int} {Q : D → Sto → Prop} (hw : Wd n w) (hn : n < 2 ^ 60) (h0 : 0 < lim) (h1 : lim < 2 ^ 60) (q : ∀ w' r, Wd (n + 1) w' → 0 ≤ r → r < lim → Q (.int r) (.lst w' :: R)) : Ok (callF Fs (k + 1) 29 [.loc 0, .int lim]) (.lst w :: R) Q := by
  obtain ⟨ds, s, c, rfl, l, p, h2, h3, h4, h5⟩ := hw
  with_reducible refine s_call at_29 (by with_unfolding_all rfl) ?_
  unfold F__law_pick
  dsimp only
  (repeat walk_at "mi")
  cases ds with
  | nil =>
    (repeat walk_at "mi")
    with_reducible refine w_gsub ?_
    (repeat walk_at "mi")
    with_reducible refine s_w2 (ds := []) ?_
    (repeat walk_at "mi")
    have hc : c.natAbs < 2 ^ 61 := by omega
    with_reducible refine s_mul (mul_small (by omega) (by decide)) ?_
    (repeat walk_at "mi")
    with_reducible refine s_mul (mul_small (by decide) (by omega)) ?_
    (repeat walk_at "mi")
    with_reducible refine s_mod (by decide) ?_
    (repeat walk_at "mi")
    with_reducible refine w_gsub ?_
    (repeat walk_at "mi")
    have m1 := Int.fmod_nonneg_of_pos (s * 16807 + 28411 * (c + 1) + 101) (b := 2147483647) (by omega)
    have m2 := Int.fmod_lt_of_pos (s * 16807 + 28411 * (c + 1) + 101) (b := 2147483647) (by omega)
    generalize Int.fmod (s * 16807 + 28411 * (c + 1) + 101) 2147483647 = s2 at m1 m2 ⊢
    with_reducible refine s_w1 (ds := []) ?_
    (repeat walk_at "mi")
    with_reducible refine s_div (divOk_of (by decide) (by decide)) ?_
    (repeat walk_at "mi")
    with_reducible refine s_mod (by omega) ?_
    (repeat walk_at "mi")
    with_reducible refine s_finE (by with_unfolding_all rfl) rfl ?_
    exact q _ _ ⟨[], s2, c + 1, rfl, by simp, p, m1, m2, by omega, by omega⟩ (Int.fmod_nonneg_of_pos _ h0) (Int.fmod_lt_of_pos _ h0)
  | cons y ys =>
    have hy := p y List.mem_cons_self
    have hys : ∀ d ∈ ys, 0 ≤ d := fun d hd => p d (List.mem_cons_of_mem _ hd)
    have l : ys.length + 1 ≤ 63 := l
    (repeat walk_at "mi")
    with_reducible refine w_getItem ⟨.int y, ?_, ?_⟩
    · show L2.atI ((y :: ys).map D.int) ((0 : Nat) : Int) = _
      exact atI_nat rfl
    (repeat walk_at "mi")
    with_reducible refine s_divmod h0 (Nat.lt_of_lt_of_le (m := 2 ^ 60) (by omega) (Nat.pow_le_pow_right (by omega) (by omega))) ?_
    (repeat walk_at "mi")
    with_reducible refine w_gtup2 ?_
    (repeat walk_at "mi")
    have m1 := Int.emod_nonneg y (b := lim) (by omega)
    have m2 := Int.emod_lt_of_pos y h0
    have m3 := Int.ediv_nonneg hy (Int.le_of_lt h0)
    have e1 : cut (D.int y :: ys.map D.int) (some 1) none = ys.map D.int := by
      unfold cut HT.sIx
      simp
      exact List.take_of_length_le (by rw [List.length_map]; omega)
    by_cases g : 0 < y / lim
    · rw [decide_eq_true g]
      (repeat walk_at "mi")
      with_reducible refine w_slice ?_
      (repeat walk_at "mi")
      with_reducible refine w_osome ?_
      (repeat walk_at "mi")
      refine ⟨1, rfl, ?_⟩
      with_reducible refine w_onone ?_
      with_reducible refine s_slice ⟨.lst (ys.map D.int), ?_, ?_⟩
      · show some (D.lst (cut (D.int y :: ys.map D.int) (some 1) none)) = _
        rw [e1]
      with_reducible refine s_catL (xs := [.int (y / lim)]) (ys := ys.map D.int) rfl rfl rfl (by simp; omega) ?_
      (repeat walk_at "mi")
      with_reducible refine w_gsub ?_
      (repeat walk_at "mi")
      refine s_w0 (ds := y :: ys) (ds' := y / lim :: ys) ?_
      (repeat walk_at "mi")
      with_reducible refine s_finE (by with_unfolding_all rfl) rfl ?_
      exact q _ _ ⟨y / lim :: ys, s, c, rfl, l, fun d hd => by
        rcases List.mem_cons.mp hd with e | hd
        · rw [e]; exact m3
        · exact hys d hd, h2, h3, h4, by omega⟩ m1 m2
    · rw [decide_eq_false g]
      (repeat walk_at "mi")
      with_reducible refine w_slice ?_
      (repeat walk_at "mi")
      with_reducible refine w_osome ?_
      (repeat walk_at "mi")
      refine ⟨1, rfl, ?_⟩
      with_reducible refine w_onone ?_
      with_reducible refine s_slice ⟨.lst (ys.map D.int), ?_, ?_⟩
      · show some (D.lst (cut (D.int y :: ys.map D.int) (some 1) none)) = _
        rw [e1]
      with_reducible refine s_catL (xs := []) (ys := ys.map D.int) rfl rfl rfl (by simp; omega) ?_
      (repeat walk_at "mi")
      with_reducible refine w_gsub ?_
      (repeat walk_at "mi")
      refine s_w0 (ds := y :: ys) (ds' := ys) ?_
      (repeat walk_at "mi")
      with_reducible refine s_finE (by with_unfolding_all rfl) rfl ?_
      exact q _ _ ⟨ys, s, c, rfl, by omega, hys, h2, h3, h4, by omega⟩ m1 m2
theorem ok_law_of {k n : Nat} {w : List D} {R : Sto} {d : D} {xs : List D} {Q : D → Sto → Prop} (hw : Wd n w) (hn : n < 2 ^ 60) (hx : ∀ w, itemsO (.lst w :: R) d = some xs) (h0 : 0 < xs.length) (h1 : xs.length < 1000000) (hp : ∀ x ∈ xs, pureD x = true) (q : ∀ w' x, Wd (n + 1) w' → x ∈ xs → Q x (.lst w' :: R)) : Ok (callF Fs (k + 2) 30 [.loc 0, d]) (.lst w :: R) Q := by
  with_reducible refine s_call at_30 (by with_unfolding_all rfl) ?_
  unfold F__law_of
  dsimp only
  (repeat walk_at "mi")
  with_reducible refine w_b1 ⟨_, lenO_items (hx w), ?_⟩
  (repeat walk_at "mi")
  with_reducible refine ok_law_pick hw hn (by omega) (by omega) fun w' r hw' r0 r1 => ?_
  (repeat walk_at "mi")
  obtain ⟨i, hi⟩ : ∃ i : Nat, r = i := ⟨r.toNat, by omega⟩
  subst hi
  have hi : i < xs.length := by omega
  have he : xs[i]? = some xs[i] := List.getElem?_eq_getElem hi
  have hm := List.getElem_mem hi
  generalize xs[i] = x at he hm
  with_reducible refine w_getItem ⟨x, ?_, ?_⟩
  · rw [itemO_items (hx w')]
    exact atI_nat he
  (repeat walk_at "mi")
  with_reducible refine s_finE (by with_unfolding_all rfl) (hp x hm) ?_
  exact q w' x hw' hm
end Lw

/-! K17: walks over lists that may be changed; over, over_sum, part. -/
namespace MI
open PySem
theorem ok_forLive {n : Nat} {g : MG} {b : MS} {c : Call} (I : List D → Env → Sto → Prop) {Q : Fl → Sto → Prop} {xs : List D}
    (hI : ∀ r ρ S, I r ρ S → litemsO S (.loc n) = some xs)
    (st : ∀ x r ρ S, I (x :: r) ρ S → Ok (g c x ρ) S fun ρ1 S1 => Ok (b c ρ1) S1 fun f S2 => match f with
      | .nx ρ2 => I r ρ2 S2
      | .ct ρ2 => I r ρ2 S2
      | .bk ρ2 => Q (.nx ρ2) S2
      | .rt d => Q (.rt d) S2) (q : ∀ ρ S, I [] ρ S → Q (.nx ρ) S) : ∀ (k i : Nat) (ρ : Env) (S : Sto), xs.length < k + i → I (xs.drop i) ρ S → i ≤ xs.length → Ok (forLive n g b c k i ρ) S Q
  | 0, i, ρ, S, h, _, _ => by omega
  | k + 1, i, ρ, S, h, j, l => by
    rw [forLive, ok_bind]
    refine s_opt (hI _ _ _ j) ?_
    rcases Nat.lt_or_ge i xs.length with l2 | l2
    · have e : xs[i]? = some xs[i] := List.getElem?_eq_getElem l2
      have e2 : xs.drop i = xs[i] :: xs.drop (i + 1) := List.drop_eq_getElem_cons l2
      rw [e2] at j
      rw [e]
      show Ok (M.bind (forTurn g b c xs[i] ρ) _) S Q
      rw [ok_bind, forTurn, ok_bind]
      refine (st _ _ ρ S j).mono fun ρ1 S1 h1 => h1.mono fun f S2 h2 => ?_
      cases f with
      | nx ρ2 => exact ok_forLive I hI st q k (i + 1) ρ2 S2 (by omega) h2 (by omega)
      | ct ρ2 => exact ok_forLive I hI st q k (i + 1) ρ2 S2 (by omega) h2 (by omega)
      | bk ρ2 => exact h2
      | rt d => exact h2
    · have e : xs[i]? = none := List.getElem?_eq_none l2
      have e2 : xs.drop i = [] := List.drop_eq_nil_of_le l2
      rw [e2] at j
      rw [e]
      exact q ρ S j
theorem w_forI {f : ME} {γ : MG} {b : MS} {c : Call} {ρ : Env} {S : Sto} {Q : Fl → Sto → Prop} (h : Ok (f c ρ) S fun d S1 => ∃ (xs : List D) (I : List D → Env → Sto → Prop), itemsO S1 d = some xs ∧ xs.length < 1000 ∧ I xs ρ S1 ∧ (∀ r ρ S, I r ρ S → itemsO S d = some xs) ∧
    (∀ x r ρ S, I (x :: r) ρ S → Ok (γ c x ρ) S fun ρ1 S1 => Ok (b c ρ1) S1 fun f S2 => match f with
      | .nx ρ2 => I r ρ2 S2
      | .ct ρ2 => I r ρ2 S2
      | .bk ρ2 => Q (.nx ρ2) S2
      | .rt d => Q (.rt d) S2) ∧ (∀ ρ S, I [] ρ S → Q (.nx ρ) S)) : Ok (sFor (iSeq f) γ b c ρ) S Q := by
  simp only [sFor, iSeq, ok_bind]
  refine h.mono fun d S1 ⟨xs, I, e, l, i, hI, st, q⟩ => ?_
  cases d with
  | tup ys => cases e; exact ok_forFix I _ ρ S1 i st q
  | lst ys => cases e; exact ok_forFix I _ ρ S1 i st q
  | loc n =>
    show Ok (M.bind (litems (.loc n)) _) S1 _
    rw [ok_bind]
    refine s_opt (a := xs) e ?_
    exact ok_forLive I hI st q turns 0 ρ S1 (by simp only [turns]; omega) i (Nat.zero_le _)
  | _ => cases e
theorem ok_compLive {n : Nat} {g : MG} {t : MT} {e : ME} {c : Call} {ρ : Env} (h : D → Option D) {S : Sto} {Q : List D → Sto → Prop} {xs : List D} (hi : litemsO S (.loc n) = some xs)
    (hx : ∀ x ∈ xs, Ok (g c x ρ) S fun ρ2 S1 => Ok (t c ρ2) S1 fun b S2 => match b with
      | true => Ok (e c ρ2) S2 fun y S3 => h x = some y ∧ S3 = S
      | false => h x = none ∧ S2 = S) : ∀ (k i : Nat) (acc : List D), xs.length < k + i → i ≤ xs.length → acc.length + (xs.length - i) ≤ sizeLine → Q (acc ++ (xs.drop i).filterMap h) S → Ok (compLive n g t e c ρ k i acc) S Q
  | 0, i, acc, l, _, _, _ => by omega
  | k + 1, i, acc, l, l2, l3, q => by
    rw [compLive, ok_bind]
    refine s_opt hi ?_
    rcases Nat.lt_or_ge i xs.length with l4 | l4
    · have e1 : xs[i]? = some xs[i] := List.getElem?_eq_getElem l4
      have e2 : xs.drop i = xs[i] :: xs.drop (i + 1) := List.drop_eq_getElem_cons l4
      rw [e1]
      rw [e2] at q
      show Ok (M.bind (compTurn g t e c ρ xs[i] acc) _) S Q
      rw [ok_bind, compTurn, ok_calm, ok_bind]
      refine (hx _ (List.getElem_mem l4)).mono fun ρ2 S1 h2 => ?_
      rw [ok_bind]
      refine h2.mono fun b S2 h3 => ?_
      cases b with
      | true =>
        show Ok (M.bind (e c ρ2) _) S2 _
        rw [ok_bind]
        refine Ok.mono h3 fun y S3 ⟨e1, e2⟩ => ?_
        rw [ok_bind, ok_chk, ok_pure]
        refine ⟨by simp; omega, ?_⟩
        subst e2
        refine ok_compLive h hi hx k (i + 1) _ (by omega) (by omega) (by simp; omega) ?_
        rw [List.filterMap_cons_some e1] at q
        simpa using q
      | false =>
        obtain ⟨e1, e2⟩ := h3
        show Ok (M.pure acc) S2 _
        rw [ok_pure, e2]
        refine ok_compLive h hi hx k (i + 1) _ (by omega) (by omega) (by omega) ?_
        rw [List.filterMap_cons_none e1] at q
        exact q
    · have e1 : xs[i]? = none := List.getElem?_eq_none l4
      have e2 : xs.drop i = [] := List.drop_eq_nil_of_le l4
      rw [e1]
      rw [e2] at q
      exact s_pure (by simpa using q)
/-- a comprehension over any list or tuple; the store stays -/
theorem w_compI {f : ME} {own : List Nat} {γ : MG} {t : MT} {e : ME} {c : Call} {ρ : Env} {S : Sto} {Q : List D → Sto → Prop} (h : D → Option D) (q : Ok (f c ρ) S fun d S1 => ∃ xs, itemsO S d = some xs ∧ S1 = S ∧ xs.length < 1000 ∧
    (∀ x ∈ xs, Ok (γ c x (wipeE ρ own)) S fun ρ2 S1 => Ok (t c ρ2) S1 fun b S2 => match b with
      | true => Ok (e c ρ2) S2 fun y S3 => h x = some y ∧ S3 = S
      | false => h x = none ∧ S2 = S) ∧ Q (xs.filterMap h) S) : Ok (lComp (iSeq f) own γ t e c ρ) S Q := by
  simp only [lComp, iSeq, ok_bind]
  refine q.mono fun d S1 ⟨xs, e1, e2, l, hx, q⟩ => ?_
  subst e2
  cases d with
  | tup ys => cases e1; exact ok_compFix h _ [] S1 Q hx (by simp only [sizeLine]; simp; omega) (by simpa using q)
  | lst ys => cases e1; exact ok_compFix h _ [] S1 Q hx (by simp only [sizeLine]; simp; omega) (by simpa using q)
  | loc n =>
    show Ok (M.bind (litems (.loc n)) _) S1 _
    rw [ok_bind]
    refine s_opt (a := xs) e1 ?_
    exact ok_compLive h e1 hx turns 0 [] (by simp only [turns]; omega) (Nat.zero_le _) (by simp only [sizeLine]; simp; omega) (by simpa using q)
  | _ => cases e1
end MI
namespace Lw
open PySem MI
theorem at_34 : Fs[34]? = some F__law_over := rfl
theorem at_36 : Fs[36]? = some F__law_over_sum := rfl
theorem at_38 : Fs[38]? = some F__law_part := rfl
theorem sum_size {B : Nat} : ∀ (fs : List (Int × Int)) (acc : Int × Int) (n : Nat), fB n acc → (∀ x ∈ fs, fB B x) → fB (n + fs.length * (B + 1)) (fs.foldl addF acc)
  | [], acc, n, h, _ => by simpa using h
  | p :: fs, acc, n, h, hs => by
    have := sum_size fs _ _ (addF_size h (hs p List.mem_cons_self)) fun x hx => hs x (List.mem_cons_of_mem _ hx)
    rw [List.foldl_cons]
    have e : n + (p :: fs).length * (B + 1) = n + B + 1 + fs.length * (B + 1) := by
      rw [List.length_cons, Nat.add_mul, Nat.one_mul]
      omega
    rw [e]
    exact this
theorem sumF_size {B : Nat} {fs : List (Int × Int)} (h : ∀ x ∈ fs, fB B x) : fB (1 + fs.length * (B + 1)) (sumF fs) := sum_size fs (0, 1) 1 ⟨by decide, by decide, by decide⟩ h
theorem fB.up {n m : Nat} {p : Int × Int} (h : fB n p) (l : n ≤ m) : fB m p := ⟨h.1, small h.2.1 l, small h.2.2 l⟩
theorem overF_size {n m : Nat} {x y : Int × Int} (hx : fB n x) (hy : fB m y) (h0 : 0 < y.1) : fB (n + m) (overF x y) := by
  refine low_size (Int.mul_pos hx.1 h0) ?_ ?_ (Nat.le_refl _)
  · rw [Int.natAbs_mul]; exact nat_mul_lt hx.2.1 hy.2.2
  · rw [Int.natAbs_mul]; exact nat_mul_lt hx.2.2 hy.2.1
theorem ok_law_over {k n m : Nat} {x y : Int × Int} {S : Sto} {Q : D → Sto → Prop} (hx : fB n x) (hy : fB m y) (h0 : 0 < y.1) (hnm : n + m < 8990) (q : Q (pd (overF x y)) S) : Ok (callF Fs (k + 2) 34 [pd x, pd y]) S Q := by
  obtain ⟨x1, x2, x3⟩ := hx
  obtain ⟨y1, y2, y3⟩ := hy
  with_reducible refine s_call at_34 (by with_unfolding_all rfl) ?_
  unfold F__law_over pd
  dsimp only
  (repeat walk_at "mi")
  with_reducible refine s_mul (mulOk_of (small x2 (by omega)) (small y3 (by omega))) ?_
  (repeat walk_at "mi")
  with_reducible refine s_mul (mulOk_of (small x3 (by omega)) (small y2 (by omega))) ?_
  (repeat walk_at "mi")
  have h1 : (x.1 * y.2).natAbs < 2 ^ (n + m) := by rw [Int.natAbs_mul]; exact nat_mul_lt x2 y3
  have h2 : (x.2 * y.1).natAbs < 2 ^ (n + m) := by rw [Int.natAbs_mul]; exact nat_mul_lt x3 y2
  with_reducible refine ok_law_frac (Int.mul_pos x1 h0) (small h1 (by omega)) (small h2 (by omega)) ?_
  (repeat walk_at "mi")
  exact q
theorem ok_law_totalI {k B : Nat} {fs : List (Int × Int)} {S : Sto} {Q : D → Sto → Prop} {d : D} (e : itemsO S d = some (fs.map pd)) (hB : ∀ x ∈ fs, fB B x) (l : 1 + fs.length * (B + 1) < 8900) (l2 : fs.length < 1000) (q : Q (pd (sumF fs)) S) : Ok (callF Fs (k + 3) 35 [d]) S Q := by
  with_reducible refine s_call at_35 (by with_unfolding_all rfl) ?_
  unfold F__law_total
  dsimp only
  (repeat walk_at "mi")
  with_reducible refine w_forI ?_
  (repeat walk_at "mi")
  refine ⟨fs.map pd, fun xs ρ S1 => S1 = S ∧ ∃ rest acc n o, xs = rest.map pd ∧ ρ = [some d, some (pd acc), o] ∧ rest.foldl addF acc = sumF fs ∧ fB n acc ∧ (∀ x ∈ rest, fB B x) ∧ n + rest.length * (B + 1) < 8900, e, by rw [List.length_map]; exact l2, ⟨rfl, fs, (0, 1), 1, none, rfl, rfl, rfl, ⟨by decide, by decide, by decide⟩, hB, l⟩, fun r ρ S1 h => by rw [h.1]; exact e, ?_, ?_⟩
  · intro x xs ρ S1 ⟨e1, rest, acc, n, o, e2, e3, e4, h1, h2, h3⟩
    subst e1 e3
    cases rest with
    | nil => cases e2
    | cons y ys =>
      obtain ⟨rfl, rfl⟩ := List.cons.inj e2
      have h4 : n + (ys.length + 1) * (B + 1) < 8900 := h3
      rw [Nat.add_mul, Nat.one_mul] at h4
      (repeat walk_at "mi")
      with_reducible refine ok_law_plus h1 (h2 y List.mem_cons_self) (by omega) ?_
      (repeat walk_at "mi")
      exact ⟨rfl, ys, addF acc y, n + B + 1, _, rfl, rfl, e4, addF_size h1 (h2 y List.mem_cons_self), fun x hx => h2 x (List.mem_cons_of_mem _ hx), by omega⟩
  · intro ρ S1 ⟨e1, rest, acc, n, o, e2, e3, e4, _⟩
    subst e1 e3
    cases rest with
    | cons y ys => cases e2
    | nil =>
      have e4 : acc = sumF fs := e4
      subst e4
      (repeat walk_at "mi")
      exact q
theorem pure_pds : ∀ r : List (Int × Int), pureL (r.map pd) = true
  | [] => rfl
  | p :: r => by
    show (pureD (pd p) && pureL (r.map pd)) = true
    rw [pure_pds r]
    rfl
theorem pure_rows : ∀ t : Tab, pureL (t.map rowD) = true
  | [] => rfl
  | r :: t => by
    show (pureL (r.map pd) && pureL (t.map rowD)) = true
    rw [pure_rows t, pure_pds]
    rfl
theorem sum_pos {fs : List (Int × Int)} (h : ∀ p ∈ fs, 0 < p.2 ∧ 0 ≤ p.1) {x : Int × Int} (hx : x ∈ fs) (h0 : 0 < x.1) : 0 < (sumF fs).1 := by
  have hr : ∀ p ∈ fs, 0 < p.2 := fun p hp => (h p hp).1
  rw [← rq_pos (sumF_red hr).1, sumF_q hr]
  have nn : ∀ fs : List (Int × Int), (∀ p ∈ fs, 0 < p.2 ∧ 0 ≤ p.1) → 0 ≤ (fs.map rq).sum := fun fs => by
    induction fs with
    | nil => intro _; exact Rat.le_refl
    | cons p fs ih =>
      intro h
      have h1 := ih fun x hx => h x (List.mem_cons_of_mem _ hx)
      obtain ⟨h2, h3⟩ := h p List.mem_cons_self
      have h4 : 0 ≤ rq p := by
        rcases Int.lt_or_eq_of_le h3 with l | l
        · have := (rq_pos h2).mpr l
          grind
        · unfold rq
          rw [← l, Rat.zero_divInt]
          exact Rat.le_refl
      rw [List.map_cons, List.sum_cons]
      grind
  induction fs with
  | nil => cases hx
  | cons p fs ih =>
    obtain ⟨h2, h3⟩ := h p List.mem_cons_self
    have hs : ∀ x ∈ fs, 0 < x.2 ∧ 0 ≤ x.1 := fun x hx => h x (List.mem_cons_of_mem _ hx)
    rw [List.map_cons, List.sum_cons]
    rcases List.mem_cons.mp hx with e | hx
    · subst e
      have h4 := (rq_pos h2).mpr h0
      have h5 := nn fs hs
      grind
    · have h4 := ih hs hx fun p hp => (hs p hp).1
      have h5 : 0 ≤ rq p := by
        have := nn [p] fun x hx => by rw [List.mem_singleton.mp hx]; exact ⟨h2, h3⟩
        rw [List.map_cons, List.map_nil, List.sum_cons, List.sum_nil] at this
        grind
      grind
def overH (s : Int × Int) (x : D) : Option D := some (pd (overF (pairOf x) s))
theorem ok_law_over_sum {k B : Nat} {fs : List (Int × Int)} {S : Sto} {Q : D → Sto → Prop} {d : D} (e : itemsO S d = some (fs.map pd)) (hB : ∀ x ∈ fs, fB B x) (hl : fs.length ≤ 6) (l : B ≤ 1200) (h0 : 0 < (sumF fs).1) (q : Q (rowD (fs.map fun p => overF p (sumF fs))) S) : Ok (callF Fs (k + 4) 36 [d]) S Q := by
  have l2 := Nat.mul_le_mul hl (show B + 1 ≤ 1201 by omega)
  with_reducible refine s_call at_36 (by with_unfolding_all rfl) ?_
  unfold F__law_over_sum
  dsimp only
  (repeat walk_at "mi")
  with_reducible refine ok_law_totalI e hB (by omega) (by omega) ?_
  (repeat walk_at "mi")
  have hs := sumF_size hB
  with_reducible refine w_compI (overH (sumF fs)) ?_
  (repeat walk_at "mi")
  refine ⟨fs.map pd, e, rfl, by rw [List.length_map]; omega, fun x hx => ?_, ?_⟩
  · obtain ⟨p, hp, rfl⟩ := List.mem_map.mp hx
    (repeat walk_at "mi")
    with_reducible refine ok_law_over (hB p hp) hs h0 (by omega) ?_
    exact ⟨rfl, rfl⟩
  · have e2 : (fs.map pd).filterMap (overH (sumF fs)) = (fs.map fun p => overF p (sumF fs)).map pd := by
      rw [List.filterMap_map, List.map_map, ← List.filterMap_eq_map]
      rfl
    rw [e2]
    (repeat walk_at "mi")
    with_reducible refine s_fin ?_ ?_
    · exact pure_pds _
    · exact q
theorem ok_law_part {k n : Nat} {w : List D} {R : Sto} {Q : D → Sto → Prop} (hw : Wd n w) (hn : n < 2 ^ 59) (q : ∀ w' a, Wd (n + 2) w' → 1 ≤ a → a ≤ 1000003 → Q (pd (a, 1)) (.lst w' :: R)) : Ok (callF Fs (k + 2) 38 [.loc 0]) (.lst w :: R) Q := by
  with_reducible refine s_call at_38 (by with_unfolding_all rfl) ?_
  unfold F__law_part
  dsimp only
  (repeat walk_at "mi")
  with_reducible refine ok_law_pick hw (by omega) (by omega) (by omega) fun w1 r hw1 r0 r1 => ?_
  (repeat walk_at "mi")
  by_cases g : r < 24
  · rw [decide_eq_true g]
    (repeat walk_at "mi")
    with_reducible refine s_mod (by decide) ?_
    (repeat walk_at "mi")
    have m1 := Int.fmod_nonneg_of_pos r (b := 6) (by omega)
    have m2 := Int.fmod_lt_of_pos r (b := 6) (by omega)
    generalize r.fmod 6 = i at m1 m2
    have fin : ∀ a : Int, 1 ≤ a → a ≤ 1000003 → Q (.tup [.int a, .int 1]) (.lst w1 :: R) := fun a h1 h2 => q w1 a (hw1.up (by omega)) h1 h2
    have hi : i = 0 ∨ i = 1 ∨ i = 2 ∨ i = 3 ∨ i = 4 ∨ i = 5 := by omega
    rcases hi with e | e | e | e | e | e <;>
    · subst e
      with_reducible refine w_getItem ⟨_, by with_unfolding_all rfl, ?_⟩
      (repeat walk_at "mi")
      with_reducible refine s_finE (by with_unfolding_all rfl) rfl ?_
      exact fin _ (by decide) (by decide)
  · rw [decide_eq_false g]
    (repeat walk_at "mi")
    with_reducible refine ok_law_pick hw1 (by omega) (by omega) (by omega) fun w2 s hw2 s0 s1 => ?_
    (repeat walk_at "mi")
    with_reducible refine s_finE (by with_unfolding_all rfl) rfl ?_
    exact q w2 (1 + s) (hw2.up (by omega)) (by omega) (by omega)
end Lw

/-! K18: ways drawn as ears. -/
namespace MI
open PySem
theorem ixN_nat {l j : Nat} (h : j < l) : L2.ixN l (j : Int) = some j := by
  unfold L2.ixN
  rw [if_pos (by omega), if_pos (by omega)]
  simp
section
variable {w : MO} {R : Sto} {i : Nat} {xs : List D}
theorem s_litC {Q : List D → Sto → Prop} (h : R[i]? = some (.lst xs)) (q : Q xs (w :: R)) : Ok (litems (.loc (i + 1))) (w :: R) Q := by
  refine s_opt (a := xs) ?_ q
  show (match (w :: R)[i + 1]? with | some (.lst xs) => some xs | _ => none) = _
  rw [List.getElem?_cons_succ, h]
theorem s_appC {y : D} {Q : D → Sto → Prop} (h : R[i]? = some (.lst xs)) (l : xs.length < 1000) (hp : pureL (xs ++ [y]) = true) (q : Q .non (w :: R.set i (.lst (xs ++ [y])))) : Ok (appD (.loc (i + 1)) y) (w :: R) Q := by
  unfold appD
  refine s_bind (s_opt (a := (i + 1, xs)) ?_ ?_)
  · show (match (w :: R)[i + 1]? with | some (.lst xs) => some (i + 1, xs) | _ => none) = _
    rw [List.getElem?_cons_succ, h]
  refine s_bind (s_chk (decide_eq_true (by simp only [sizeLine]; omega)) ?_)
  refine s_bind ?_
  unfold Ok putL
  rw [hp]
  exact q
theorem s_popC {j : Nat} {x : D} {Q : D → Sto → Prop} (h : R[i]? = some (.lst xs)) (hx : xs[j]? = some x) (l : xs.length < 1000) (hp : pureL (xs.eraseIdx j) = true) (q : Q x (w :: R.set i (.lst (xs.eraseIdx j)))) : Ok (popD (.loc (i + 1)) (.int j)) (w :: R) Q := by
  have lj : j < xs.length := (List.getElem?_eq_some_iff.mp hx).1
  have hr : inR (j : Int) = true := by
    unfold inR
    exact decide_eq_true ⟨by omega, by omega⟩
  unfold popD
  refine s_bind (s_opt (a := (i + 1, xs)) ?_ ?_)
  · show (match (w :: R)[i + 1]? with | some (.lst xs) => some (i + 1, xs) | _ => none) = _
    rw [List.getElem?_cons_succ, h]
  show Ok (M.bind (chk (inR (j : Int))) fun _ => M.bind (ofO (L2.ixN xs.length (j : Int))) fun j => M.bind (ofO xs[j]?) fun x => M.bind (putL (i + 1) (xs.eraseIdx j)) fun _ => M.pure x) (w :: R) Q
  with_reducible refine s_bind ?_
  with_reducible refine s_chk hr ?_
  with_reducible refine s_bind ?_
  with_reducible refine s_ofO (ixN_nat lj) ?_
  with_reducible refine s_bind ?_
  with_reducible refine s_ofO hx ?_
  with_reducible refine s_bind ?_
  unfold Ok putL
  rw [hp]
  exact q
theorem s_newC {Q : D → Sto → Prop} (hp : pureL xs = true) (q : Q (.loc (R.length + 1)) (w :: (R ++ [.lst xs]))) : Ok (newL xs) (w :: R) Q := s_new hp q
theorem eq_emptyC (h : R[i]? = some (.lst xs)) : cmpO .Eq (w :: R) (.loc (i + 1)) (.lst []) = some xs.isEmpty := by
  show eqO (w :: R) (.loc (i + 1)) (.lst []) = _
  have e : litemsO (w :: R) (.loc (i + 1)) = some xs := by
    show (match (w :: R)[i + 1]? with | some (.lst xs) => some xs | _ => none) = _
    rw [List.getElem?_cons_succ, h]
  show (match emptyO (w :: R) (.loc (i + 1)) (.lst []) with | some k => some k | none => _) = _
  show (match (litemsO (w :: R) (.loc (i + 1))).map List.isEmpty with | some k => some k | none => _) = _
  rw [e]
  rfl
theorem it_C (h : R[i]? = some (.lst xs)) : itemsO (w :: R) (.loc (i + 1)) = some xs := by
  show (match (w :: R)[i + 1]? with | some (.lst xs) => some xs | _ => none) = _
  rw [List.getElem?_cons_succ, h]
theorem lit_C (h : R[i]? = some (.lst xs)) : litemsO (w :: R) (.loc (i + 1)) = some xs := it_C h
end
theorem w_lrg1 {f : ME} {c : Call} {ρ : Env} {S : Sto} {Q : List D → Sto → Prop} (q : Ok (f c ρ) S fun d S1 => ∃ n : Nat, some d = some (.int n) ∧ n < 1000 ∧ Q (rangeL 0 n) S1) : Ok (lRg1 f c ρ) S Q := by
  unfold lRg1
  rw [ok_bind]
  refine q.mono fun d S1 ⟨n, e, l, q⟩ => ?_
  cases e
  have hr : inR (n : Int) = true := by
    unfold inR
    exact decide_eq_true ⟨by omega, by omega⟩
  show Ok (M.bind (chk (inR (n : Int) && fits n)) fun _ => M.pure (rangeL 0 n)) S1 Q
  with_reducible refine s_bind ?_
  with_reducible refine s_chk ?_ (s_pure q)
  rw [hr]
  exact decide_eq_true (by simp only [sizeLine]; omega)
theorem s_cat {a b : D} {xs ys : List D} {S : Sto} {Q : List D → Sto → Prop} (h1 : litemsO S a = some xs) (h2 : litemsO S b = some ys) (l : xs.length + ys.length ≤ 1000) (q : Q (xs ++ ys) S) : Ok (catL a b) S Q := by
  unfold catL
  refine s_bind (s_opt (a := xs) h1 ?_)
  refine s_bind (s_opt (a := ys) h2 ?_)
  exact s_bind (s_chk (decide_eq_true (by simp only [sizeLine]; omega)) (s_pure q))
end MI
namespace Lw
open PySem MI
theorem at_37 : Fs[37]? = some F__law_ears := rfl
/-- from place to place along drawn steps -/
inductive ER (E : List (Nat × Nat)) (a : Nat) : Nat → Prop where
  | refl : ER E a a
  | step {b c : Nat} : ER E a b → (b, c) ∈ E → ER E a c
theorem ER.trans {E : List (Nat × Nat)} {a b c : Nat} (h : ER E a b) (i : ER E b c) : ER E a c := by
  induction i with
  | refl => exact h
  | step _ e ih => exact ih.step e
theorem ER.mono {E E' : List (Nat × Nat)} (s : ∀ e ∈ E, e ∈ E') {a b : Nat} (h : ER E a b) : ER E' a b := by
  induction h with
  | refl => exact .refl
  | step _ e ih => exact ih.step (s _ e)
structure EI (n : Nat) (L K : List Nat) (E : List (Nat × Nat)) : Prop where
  perm : (K ++ L).Perm (List.range n)
  con : ∀ a ∈ K, ∀ b ∈ K, ER E a b
  rng : ∀ e ∈ E, e.1 < n ∧ e.2 < n
  ne : K ≠ []
structure EJ (n : Nat) (L K F : List Nat) (E : List (Nat × Nat)) (h0 here : Nat) : Prop where
  perm : (K ++ F ++ L).Perm (List.range n)
  con : ∀ a ∈ K, ∀ b ∈ K, ER E a b
  rng : ∀ e ∈ E, e.1 < n ∧ e.2 < n
  hK : h0 ∈ K
  to : ∀ x ∈ F, ER E h0 x ∧ ER E x here
  hh : ER E h0 here
  hn : here < n
theorem cons_erase_perm {α : Type} {xs : List α} {j : Nat} (h : j < xs.length) : (xs[j] :: xs.eraseIdx j).Perm xs := by
  rw [List.eraseIdx_eq_take_drop_succ]
  refine List.perm_middle.symm.trans ?_
  rw [List.getElem_cons_drop, List.take_append_drop]
theorem erase_map {α β : Type} (f : α → β) : ∀ (xs : List α) (j : Nat), (xs.map f).eraseIdx j = (xs.eraseIdx j).map f
  | [], j => by cases j <;> rfl
  | x :: xs, 0 => rfl
  | x :: xs, j + 1 => by
    show f x :: (xs.map f).eraseIdx j = _
    rw [erase_map f xs j]
    rfl
theorem EI.lt {n : Nat} {L K : List Nat} {E : List (Nat × Nat)} (h : EI n L K E) {x : Nat} (hx : x ∈ K) : x < n :=
  List.mem_range.mp (h.perm.mem_iff.mp (List.mem_append.mpr (.inl hx)))
theorem EI.len {n : Nat} {L K : List Nat} {E : List (Nat × Nat)} (h : EI n L K E) : K.length + L.length = n := by
  have := h.perm.length_eq
  rwa [List.length_append, List.length_range] at this
theorem EI.start {n x j : Nat} (hx : (List.range n)[j]? = some x) : EI n ((List.range n).eraseIdx j) [x] [] := by
  obtain ⟨l, e⟩ := List.getElem?_eq_some_iff.mp hx
  refine ⟨?_, fun a ha b hb => ?_, (fun _ h => nomatch h), by simp⟩
  · rw [← e]
    exact cons_erase_perm l
  · rw [List.mem_singleton.mp ha, List.mem_singleton.mp hb]
    exact .refl
theorem EI.open_ {n h0 : Nat} {L K : List Nat} {E : List (Nat × Nat)} (h : EI n L K E) (hk : h0 ∈ K) : EJ n L K [] E h0 h0 :=
  ⟨by simpa using h.perm, h.con, h.rng, hk, (fun _ h => nomatch h), .refl, h.lt hk⟩
theorem EJ.next {n j x h0 here : Nat} {L K F : List Nat} {E : List (Nat × Nat)} (h : EJ n L K F E h0 here) (hx : L[j]? = some x) : EJ n (L.eraseIdx j) K (F ++ [x]) (E ++ [(here, x)]) h0 x := by
  obtain ⟨l, e⟩ := List.getElem?_eq_some_iff.mp hx
  have hxn : x < n := List.mem_range.mp (h.perm.mem_iff.mp (List.mem_append.mpr (.inr (List.mem_of_getElem? hx))))
  have s : ∀ e ∈ E, e ∈ E ++ [(here, x)] := fun e he => List.mem_append.mpr (.inl he)
  have last : ER (E ++ [(here, x)]) here x := ER.refl.step (List.mem_append.mpr (.inr (List.mem_singleton.mpr rfl)))
  refine ⟨?_, fun a ha b hb => (h.con a ha b hb).mono s, ?_, h.hK, ?_, (h.hh.mono s).trans last, hxn⟩
  · refine List.Perm.trans ?_ h.perm
    have p1 : (x :: L.eraseIdx j).Perm L := by rw [← e]; exact cons_erase_perm l
    have p2 := p1.append_left (K ++ F)
    simpa using p2
  · intro e he
    rcases List.mem_append.mp he with he | he
    · exact h.rng e he
    · rw [List.mem_singleton.mp he]
      exact ⟨h.hn, hxn⟩
  · intro y hy
    rcases List.mem_append.mp hy with hy | hy
    · exact ⟨(h.to y hy).1.mono s, ((h.to y hy).2.mono s).trans last⟩
    · rw [List.mem_singleton.mp hy]
      exact ⟨(h.hh.mono s).trans last, .refl⟩
theorem EJ.close {n h0 here last : Nat} {L K F : List Nat} {E : List (Nat × Nat)} (h : EJ n L K F E h0 here) (hl : last ∈ K) : EI n L (K ++ F) (E ++ [(here, last)]) := by
  have s : ∀ e ∈ E, e ∈ E ++ [(here, last)] := fun e he => List.mem_append.mpr (.inl he)
  have le : ER (E ++ [(here, last)]) here last := ER.refl.step (List.mem_append.mpr (.inr (List.mem_singleton.mpr rfl)))
  have ln : last < n := List.mem_range.mp (h.perm.mem_iff.mp (List.mem_append.mpr (.inl (List.mem_append.mpr (.inl hl)))))
  refine ⟨by simpa using h.perm, fun a ha b hb => ?_, ?_, ?_⟩
  · have t1 : ER (E ++ [(here, last)]) a h0 := by
      rcases List.mem_append.mp ha with ha | ha
      · exact (h.con a ha h0 h.hK).mono s
      · exact (((h.to a ha).2.mono s).trans le).trans ((h.con last hl h0 h.hK).mono s)
    have t2 : ER (E ++ [(here, last)]) h0 b := by
      rcases List.mem_append.mp hb with hb | hb
      · exact (h.con h0 h.hK b hb).mono s
      · exact (h.to b hb).1.mono s
    exact t1.trans t2
  · intro e he
    rcases List.mem_append.mp he with he | he
    · exact h.rng e he
    · rw [List.mem_singleton.mp he]
      exact ⟨h.hn, ln⟩
  · intro e
    have := h.hK
    rw [(List.append_eq_nil_iff.mp e).1] at this
    cases this
theorem get_nat {L : List Nat} {j x : Nat} (hx : L[j]? = some x) : (L.map natD)[j]? = some (natD x) := by
  rw [List.getElem?_map, hx]
  rfl
theorem pure_nat_mem (L : List Nat) : ∀ x ∈ L.map natD, pureD x = true := fun x hx => by
  obtain ⟨y, _, rfl⟩ := List.mem_map.mp hx
  rfl
def ed (e : Nat × Nat) : D := .tup [natD e.1, natD e.2]
theorem pure_eds : ∀ E : List (Nat × Nat), pureL (E.map ed) = true
  | [] => rfl
  | e :: E => by
    show (pureD (ed e) && pureL (E.map ed)) = true
    rw [pure_eds E]
    rfl
theorem nats_push (F : List Nat) (x : Nat) : F.map natD ++ [natD x] = (F ++ [x]).map natD := by rw [List.map_append]; rfl
theorem eds_push (E : List (Nat × Nat)) (a b : Nat) : E.map ed ++ [.tup [natD a, natD b]] = (E ++ [(a, b)]).map ed := by rw [List.map_append]; rfl
theorem nats_erase (L : List Nat) (j : Nat) : (L.map natD).eraseIdx j = (L.eraseIdx j).map natD := erase_map _ _ _
theorem take_app {R X T : Sto} {m : Nat} (h : R.take m = T) (l : m ≤ R.length) : (R ++ X).take m = T := by rw [List.take_append_of_le_length l]; exact h
theorem take_put {R T : Sto} {m i : Nat} {v : MO} (h : R.take m = T) (l : m ≤ i) : (R.set i v).take m = T := by
  rw [← h]
  exact List.take_set_of_le l
theorem app_get {R X : Sto} {i : Nat} {v : MO} (h : R[i]? = some v) : (R ++ X)[i]? = some v := by
  rw [List.getElem?_append_left (List.getElem?_eq_some_iff.mp h).1]
  exact h
theorem app_new {R : Sto} {v : MO} : (R ++ [v])[R.length]? = some v := by simp
theorem put_ne {R : Sto} {i j : Nat} {u v : MO} (h : R[i]? = some v) (n : j ≠ i) : (R.set j u)[i]? = some v := by
  rw [List.getElem?_set_ne n]
  exact h
theorem put_self {R : Sto} {i : Nat} {u v : MO} (h : R[i]? = some v) : (R.set i u)[i]? = some u := by
  rw [List.getElem?_set_self (List.getElem?_eq_some_iff.mp h).1]
/-- the lists of the drawing: left, known, found -/
structure Cells (m b : Nat) (T R : Sto) (L K : List Nat) (E : List (Nat × Nat)) : Prop where
  tk : R.take m = T
  lt : m + 2 < R.length
  bm : m < b
  b2 : b ≠ m + 2
  cL : R[m]? = some (.lst (L.map natD))
  cK : R[b]? = some (.lst (K.map natD))
  cE : R[m + 2]? = some (.lst (E.map ed))
theorem ok_law_ears {k N n : Nat} {w : List D} {T : Sto} {Q : D → Sto → Prop} (hw : Wd N w) (hN : N < 2 ^ 58) (n0 : 1 ≤ n) (n6 : n ≤ 6) (q : ∀ w' R' E, Wd (N + 200) w' → R'.take T.length = T → T.length ≤ R'.length → R'[T.length + 2]? = some (.lst (E.map ed)) → (∀ e ∈ E, e.1 < n ∧ e.2 < n) → E.length ≤ 2 * n → (∀ a b, a < n → b < n → ER E a b) → Q (.loc (T.length + 3)) (.lst w' :: R')) : Ok (callF Fs (k + 3) 37 [.loc 0, natD n]) (.lst w :: T) Q := by
  with_reducible refine s_call at_37 (by with_unfolding_all rfl) ?_
  unfold F__law_ears
  dsimp only
  (repeat walk_at "mi")
  with_reducible refine w_par ?_
  (repeat walk_at "mi")
  with_reducible refine w_lrg1 ?_
  (repeat walk_at "mi")
  refine ⟨n, rfl, by omega, ?_⟩
  rw [show rangeL 0 n = (List.range n).map natD by rw [show (0 : Int) = ((0 : Nat) : Int) from rfl, rangeL_nats, ← List.range_eq_range']]
  (repeat walk_at "mi")
  with_reducible refine s_newC (pure_nats _) ?_
  (repeat walk_at "mi")
  with_reducible refine s_newC (by with_unfolding_all rfl) ?_
  (repeat walk_at "mi")
  with_reducible refine s_newC (by with_unfolding_all rfl) ?_
  (repeat walk_at "mi")
  refine ⟨rfl, ?_⟩
  rw [show (T ++ [MO.lst ((List.range n).map natD)]).length + 1 = T.length + 1 + 1 by simp, show (T ++ [MO.lst ((List.range n).map natD)] ++ [MO.lst []]).length + 1 = T.length + 2 + 1 by simp]
  have cs : Cells T.length (T.length + 1) T (T ++ [MO.lst ((List.range n).map natD)] ++ [MO.lst []] ++ [MO.lst []]) (List.range n) [] [] := by
    refine ⟨?_, by simp, by omega, by omega, ?_, ?_, ?_⟩
    · simp
    · exact app_get (app_get app_new)
    · refine app_get ?_
      have := app_new (R := T ++ [MO.lst ((List.range n).map natD)]) (v := MO.lst [])
      simpa using this
    · have := app_new (R := T ++ [MO.lst ((List.range n).map natD)] ++ [MO.lst []]) (v := MO.lst [])
      simpa using this
  generalize T ++ [MO.lst ((List.range n).map natD)] ++ [MO.lst []] ++ [MO.lst []] = R at cs ⊢
  (repeat walk_at "mi")
  with_reducible refine s_litC cs.cK ?_
  (repeat walk_at "mi")
  with_reducible refine s_litC cs.cL ?_
  (repeat walk_at "mi")
  show Ok (callF Fs (k + 2) 29 [.loc 0, .int n]) _ _
  with_reducible refine ok_law_pick hw (by omega) (by omega) (by omega) fun w1 r hw1 r0 r1 => ?_
  (repeat walk_at "mi")
  obtain ⟨j, hj⟩ : ∃ j : Nat, r = j := ⟨r.toNat, by omega⟩
  subst hj
  have hj : j < (List.range n).length := by rw [List.length_range]; omega
  have hx : (List.range n)[j]? = some (List.range n)[j] := List.getElem?_eq_getElem hj
  generalize (List.range n)[j] = x at hx
  have ei := EI.start hx
  with_reducible refine s_popC (x := natD x) cs.cL (get_nat hx) (by rw [List.length_map, List.length_range]; omega) (by rw [nats_erase]; exact pure_nats _) ?_
  rw [nats_erase]
  have cs2 : Cells T.length (T.length + 1) T (R.set T.length (.lst (((List.range n).eraseIdx j).map natD))) ((List.range n).eraseIdx j) [] [] :=
    ⟨take_put cs.tk (Nat.le_refl _), by rw [List.length_set]; exact cs.lt, by omega, by omega, put_self cs.cL, put_ne cs.cK (by omega), put_ne cs.cE (by omega)⟩
  generalize R.set T.length (.lst (((List.range n).eraseIdx j).map natD)) = R at cs2 ⊢
  (repeat walk_at "mi")
  with_reducible refine s_appC cs2.cK (by simp) (by with_unfolding_all rfl) ?_
  have cs3 : Cells T.length (T.length + 1) T (R.set (T.length + 1) (.lst (List.map natD [] ++ [natD x]))) ((List.range n).eraseIdx j) [x] [] :=
    ⟨take_put cs2.tk (by omega), by rw [List.length_set]; exact cs2.lt, by omega, by omega, put_ne cs2.cL (by omega), put_self cs2.cK, put_ne cs2.cE (by omega)⟩
  generalize R.set (T.length + 1) (.lst (List.map natD [] ++ [natD x])) = R at cs3 ⊢
  (repeat walk_at "mi")
  with_reducible refine w_for (w_range1 ?_)
  (repeat walk_at "mi")
  refine ⟨n, rfl, ?_, _, rfl, ?_⟩
  · unfold inR
    exact decide_eq_true (by omega)
  have lL : ((List.range n).eraseIdx j).length = n - 1 := by
    have := ei.len
    simp only [List.length_singleton] at this
    omega
  have fin : ∀ (w : List D) (R : Sto) (b : Nat) (K : List Nat) (E : List (Nat × Nat)) (M : Nat), Wd (N + M) w → M ≤ 200 → Cells T.length b T R [] K E → EI n [] K E → E.length ≤ 2 * n → Q (.loc (T.length + 3)) (.lst w :: R) := by
    intro w R b K E M hw hM cs ei l
    refine q w R E (hw.up (by omega)) cs.tk (by have := cs.lt; omega) cs.cE ei.rng l fun a c ha hc => ?_
    have p := ei.perm
    rw [List.append_nil] at p
    exact ei.con a (p.mem_iff.mpr (List.mem_range.mpr ha)) c (p.mem_iff.mpr (List.mem_range.mpr hc))
  refine ok_forFix (fun xs ρ S1 => ∃ (t : Nat) (w : List D) (R : Sto) (b : Nat) (L K : List Nat) (E : List (Nat × Nat)) (o2 o6 o7 o8 o9 o10 : Option D), xs = rangeL ((t : Nat) : Int) (n - t) ∧ t ≤ n ∧ ρ = [some (.loc 0), some (natD n), o2, some (.loc (T.length + 1)), some (.loc (b + 1)), some (.loc (T.length + 2 + 1)), o6, o7, o8, o9, o10] ∧ S1 = .lst w :: R ∧ Wd (N + (1 + t * 20)) w ∧ Cells T.length b T R L K E ∧ EI n L K E ∧ E.length + 2 * L.length ≤ 2 * n ∧ L.length ≤ n - 1 - t) _ _ _ ⟨0, w1, R, T.length + 1, _, [x], [], none, none, none, none, none, none, rfl, Nat.zero_le _, rfl, rfl, hw1, cs3, ei, by simp only [List.length_nil]; omega, by omega⟩ ?_ ?_
  · intro y ys ρ S1 ⟨t, w, R, b, L, K, E, o2, o6, o7, o8, o9, o10, e2, lt, e3, e4, hw, cs, ei, eb, lb⟩
    obtain ⟨lt2, e5, e6⟩ := rangeL_succ e2
    subst e3 e4 e5
    have hlen := ei.len
    (repeat walk_at "mi")
    with_reducible refine w_cmpD ⟨_, eq_emptyC cs.cL, ?_⟩
    cases L with
    | nil =>
      (repeat walk_at "mi")
      with_reducible refine s_finF ?_
      exact fin w R b K E _ hw (by omega) cs ei (by simpa using eb)
    | cons l0 ls =>
      have hL : (l0 :: ls).length = ls.length + 1 := rfl
      generalize l0 :: ls = L at cs ei eb lb hlen hL ⊢
      have hne : (L.map natD).isEmpty = false := by
        cases L with
        | nil => cases hL
        | cons _ _ => rfl
      rw [hne]
      have hKl : 0 < K.length := List.length_pos_iff.mpr ei.ne
      (repeat walk_at "mi")
      with_reducible refine w_par ?_
      (repeat walk_at "mi")
      with_reducible refine ok_law_of hw (by omega) (fun w => it_C cs.cK) (by rw [List.length_map]; exact hKl) (by rw [List.length_map]; omega) (pure_nat_mem K) fun w2 x2 hw2 hx2 => ?_
      obtain ⟨here, hhere, rfl⟩ := List.mem_map.mp hx2
      (repeat walk_at "mi")
      with_reducible refine ok_law_of hw2 (by omega) (fun w => it_C cs.cK) (by rw [List.length_map]; exact hKl) (by rw [List.length_map]; omega) (pure_nat_mem K) fun w3 x3 hw3 hx3 => ?_
      obtain ⟨last, hlast, rfl⟩ := List.mem_map.mp hx3
      (repeat walk_at "mi")
      with_reducible refine s_newC (by with_unfolding_all rfl) ?_
      (repeat walk_at "mi")
      refine ⟨rfl, ?_⟩
      have cs4 : Cells T.length b T (R ++ [.lst []]) L K E := ⟨take_app cs.tk (by have := cs.lt; omega), by rw [List.length_append]; have := cs.lt; omega, cs.bm, cs.b2, app_get cs.cL, app_get cs.cK, app_get cs.cE⟩
      have cF : (R ++ [MO.lst []])[R.length]? = some (.lst (([] : List Nat).map natD)) := app_new
      have hf : T.length + 2 < R.length ∧ b < R.length := ⟨cs.lt, (List.getElem?_eq_some_iff.mp cs.cK).1⟩
      generalize R.length = f at cF hf ⊢
      generalize R ++ [MO.lst []] = R at cs4 cF ⊢
      (repeat walk_at "mi")
      with_reducible refine w_for (w_range1 ?_)
      (repeat walk_at "mi")
      with_reducible refine w_b1 ⟨_, lenO_items (it_C cs4.cL), ?_⟩
      (repeat walk_at "mi")
      have hLl : (L.map natD).length = L.length := List.length_map _
      with_reducible refine ok_law_pick hw3 (by omega) (by omega) (by omega) fun w4 r hw4 r0 r1 => ?_
      (repeat walk_at "mi")
      obtain ⟨c, hc⟩ : ∃ c : Nat, r = c := ⟨r.toNat, by omega⟩
      subst hc
      refine ⟨((1 + c : Nat) : Int), by congr 2, ?_, _, rfl, ?_⟩
      · unfold inR
        exact decide_eq_true (by omega)
      rw [show ((1 + c : Nat) : Int).toNat = 1 + c from rfl]
      refine ok_forFix (fun xs ρ S1 => ∃ (s : Nat) (w : List D) (R : Sto) (L' F : List Nat) (E : List (Nat × Nat)) (hr : Nat) (o6 o10 : Option D), xs = rangeL ((s : Nat) : Int) (1 + c - s) ∧ s ≤ 1 + c ∧ ρ = [some (.loc 0), some (natD n), some (natD t), some (.loc (T.length + 1)), some (.loc (b + 1)), some (.loc (T.length + 2 + 1)), o6, some (natD hr), some (natD last), some (.loc (f + 1)), o10] ∧ S1 = .lst w :: R ∧ Wd (N + (1 + t * 20) + 3 + s) w ∧ Cells T.length b T R L' K E ∧ R[f]? = some (.lst (F.map natD)) ∧ EJ n L' K F E here hr ∧ E.length + 2 * L'.length + F.length ≤ 2 * n ∧ L'.length + s = L.length ∧ F.length = s) _ _ _ ⟨0, w4, R, L, [], E, here, _, _, rfl, Nat.zero_le _, rfl, rfl, hw4, cs4, cF, ei.open_ hhere, by simpa using eb, rfl, rfl⟩ ?_ ?_
      · intro z zs ρ S2 ⟨s, w, R, L', F, E, hr, o6, o10, e2, ls2, e3, e4, hw, cs, cF, ej, eb, ll, lf⟩
        obtain ⟨ls3, e7, e8⟩ := rangeL_succ e2
        subst e3 e4 e7
        have hL' : 0 < L'.length := by omega
        have hLl : (L'.map natD).length = L'.length := List.length_map _
        (repeat walk_at "mi")
        with_reducible refine s_litC cs.cL ?_
        (repeat walk_at "mi")
        with_reducible refine w_b1 ⟨_, lenO_items (it_C cs.cL), ?_⟩
        (repeat walk_at "mi")
        with_reducible refine ok_law_pick hw (by omega) (by omega) (by omega) fun w5 r hw5 r0 r1 => ?_
        (repeat walk_at "mi")
        obtain ⟨j, hj⟩ : ∃ j : Nat, r = j := ⟨r.toNat, by omega⟩
        subst hj
        have hj : j < L'.length := by omega
        have hx : L'[j]? = some L'[j] := List.getElem?_eq_getElem hj
        generalize L'[j] = x at hx
        have ej2 := ej.next hx
        with_reducible refine s_popC (x := natD x) cs.cL (get_nat hx) (by rw [List.length_map]; omega) (by rw [nats_erase]; exact pure_nats _) ?_
        rw [nats_erase]
        have le : (L'.eraseIdx j).length = L'.length - 1 := List.length_eraseIdx_of_lt hj
        have cs5 : Cells T.length b T (R.set T.length (.lst ((L'.eraseIdx j).map natD))) (L'.eraseIdx j) K E :=
          ⟨take_put cs.tk (Nat.le_refl _), by rw [List.length_set]; exact cs.lt, cs.bm, cs.b2, put_self cs.cL, put_ne cs.cK (by have := cs.bm; omega), put_ne cs.cE (by omega)⟩
        have cF5 : (R.set T.length (.lst ((L'.eraseIdx j).map natD)))[f]? = some (.lst (F.map natD)) := put_ne cF (by omega)
        generalize R.set T.length (.lst ((L'.eraseIdx j).map natD)) = R at cs5 cF5 ⊢
        (repeat walk_at "mi")
        with_reducible refine s_litC cs5.cE ?_
        (repeat walk_at "mi")
        with_reducible refine s_appC cs5.cE (by rw [List.length_map]; omega) (by rw [eds_push]; exact pure_eds _) ?_
        rw [eds_push]
        have cs6 : Cells T.length b T (R.set (T.length + 2) (.lst ((E ++ [(hr, x)]).map ed))) (L'.eraseIdx j) K (E ++ [(hr, x)]) :=
          ⟨take_put cs5.tk (by omega), by rw [List.length_set]; exact cs5.lt, cs.bm, cs.b2, put_ne cs5.cL (by omega), put_ne cs5.cK (by have := cs.b2; omega), put_self cs5.cE⟩
        have cF6 : (R.set (T.length + 2) (.lst ((E ++ [(hr, x)]).map ed)))[f]? = some (.lst (F.map natD)) := put_ne cF5 (by omega)
        generalize R.set (T.length + 2) (.lst ((E ++ [(hr, x)]).map ed)) = R at cs6 cF6 ⊢
        (repeat walk_at "mi")
        with_reducible refine s_litC cF6 ?_
        (repeat walk_at "mi")
        with_reducible refine s_appC cF6 (by rw [List.length_map]; omega) (by rw [nats_push]; exact pure_nats _) ?_
        rw [nats_push]
        have cs7 : Cells T.length b T (R.set f (.lst ((F ++ [x]).map natD))) (L'.eraseIdx j) K (E ++ [(hr, x)]) :=
          ⟨take_put cs6.tk (by omega), by rw [List.length_set]; exact cs6.lt, cs.bm, cs.b2, put_ne cs6.cL (by omega), put_ne cs6.cK (by omega), put_ne cs6.cE (by omega)⟩
        have cF7 : (R.set f (.lst ((F ++ [x]).map natD)))[f]? = some (.lst ((F ++ [x]).map natD)) := put_self cF6
        generalize R.set f (.lst ((F ++ [x]).map natD)) = R at cs7 cF7 ⊢
        (repeat walk_at "mi")
        exact ⟨s + 1, w5, R, L'.eraseIdx j, F ++ [x], E ++ [(hr, x)], x, _, _, e8, ls3, rfl, rfl, hw5, cs7, cF7, ej2, by rw [List.length_append, List.length_append, le]; simp only [List.length_singleton]; omega, by omega, by rw [List.length_append, lf]; rfl⟩
      · intro ρ S2 ⟨s, w, R, L', F, E, hr, o6, o10, e2, ls2, e3, e4, hw, cs, cF, ej, eb, ll, lf⟩
        have := rangeL_nil e2 ls2
        subst e3 e4
        (repeat walk_at "mi")
        with_reducible refine s_litC cs.cE ?_
        (repeat walk_at "mi")
        with_reducible refine s_appC cs.cE (by rw [List.length_map]; omega) (by rw [eds_push]; exact pure_eds _) ?_
        rw [eds_push]
        have cs6 : Cells T.length b T (R.set (T.length + 2) (.lst ((E ++ [(hr, last)]).map ed))) L' K (E ++ [(hr, last)]) :=
          ⟨take_put cs.tk (by omega), by rw [List.length_set]; exact cs.lt, cs.bm, cs.b2, put_ne cs.cL (by omega), put_ne cs.cK (by have := cs.b2; omega), put_self cs.cE⟩
        have cF6 : (R.set (T.length + 2) (.lst ((E ++ [(hr, last)]).map ed)))[f]? = some (.lst (F.map natD)) := put_ne cF (by omega)
        generalize R.set (T.length + 2) (.lst ((E ++ [(hr, last)]).map ed)) = R at cs6 cF6 ⊢
        have ei2 := ej.close hlast
        have hlen2 := ei2.len
        rw [List.length_append] at hlen2
        (repeat walk_at "mi")
        with_reducible refine s_cat (lit_C cs6.cK) (lit_C cF6) (by rw [List.length_map, List.length_map]; omega) ?_
        rw [← List.map_append]
        (repeat walk_at "mi")
        with_reducible refine s_newC (pure_nats _) ?_
        (repeat walk_at "mi")
        refine ⟨t + 1, w, R ++ [.lst ((K ++ F).map natD)], R.length, L', K ++ F, E ++ [(hr, last)], _, _, _, _, _, _, e6, lt2, rfl, rfl, hw.up (by omega), ⟨take_app cs6.tk (by have := cs6.lt; omega), by rw [List.length_append]; have := cs6.lt; omega, by have := cs6.lt; omega, by have := cs6.lt; omega, app_get cs6.cL, app_new, app_get cs6.cE⟩, ei2, by rw [List.length_append]; simp only [List.length_singleton]; omega, by omega⟩
  · intro ρ S1 ⟨t, w, R, b, L, K, E, o2, o6, o7, o8, o9, o10, e2, lt, e3, e4, hw, cs, ei, eb, lb⟩
    have := rangeL_nil e2 lt
    subst e3 e4
    have hL : L = [] := List.length_eq_zero_iff.mp (by omega)
    subst hL
    (repeat walk_at "mi")
    with_reducible refine s_finF ?_
    exact fin w R b K E _ hw (by omega) cs ei (by simpa using eb)
end Lw

/-! K19: a drawn walk is a walk. -/
namespace MI
open PySem
/-- a comprehension whose turns change the store -/
theorem ok_compFixI {g : MG} {t : MT} {e : ME} {c : Call} {ρ : Env} (I : List D → List D → Sto → Prop) {Q : List D → Sto → Prop}
    (st : ∀ x xs acc S, I (x :: xs) acc S → acc.length < 1000 ∧ Ok (g c x ρ) S fun ρ2 S1 => Ok (t c ρ2) S1 fun b S2 => match b with
      | true => Ok (e c ρ2) S2 fun y S3 => I xs (acc ++ [y]) S3
      | false => I xs acc S2) (q : ∀ acc S, I [] acc S → Q acc S) : ∀ (xs acc : List D) (S : Sto), I xs acc S → Ok (compFix g t e c ρ xs acc) S Q
  | [], acc, S, i => by
    rw [compFix, ok_pure]
    exact q acc S i
  | x :: xs, acc, S, i => by
    rw [compFix, ok_bind, compTurn, ok_calm, ok_bind]
    obtain ⟨l, h⟩ := st x xs acc S i
    refine h.mono fun ρ2 S1 h2 => ?_
    rw [ok_bind]
    refine h2.mono fun b S2 h3 => ?_
    cases b with
    | true =>
      show Ok (M.bind (e c ρ2) _) S2 _
      rw [ok_bind]
      refine Ok.mono h3 fun y S3 h4 => ?_
      rw [ok_bind, ok_chk, ok_pure]
      exact ⟨decide_eq_true (by simp only [sizeLine]; omega), ok_compFixI I st q xs _ S3 h4⟩
    | false =>
      show Ok (M.pure acc) S2 _
      rw [ok_pure]
      exact ok_compFixI I st q xs acc S2 h3
theorem w_compFI {s : MI} {own : List Nat} {γ : MG} {t : MT} {e : ME} {c : Call} {ρ : Env} {S : Sto} {Q : List D → Sto → Prop} (h : Ok (s c ρ) S fun z S1 => ∃ (xs : List D) (I : List D → List D → Sto → Prop), z = .fix xs ∧ I xs [] S1 ∧
    (∀ x xs acc S, I (x :: xs) acc S → acc.length < 1000 ∧ Ok (γ c x (wipeE ρ own)) S fun ρ2 S1 => Ok (t c ρ2) S1 fun b S2 => match b with
      | true => Ok (e c ρ2) S2 fun y S3 => I xs (acc ++ [y]) S3
      | false => I xs acc S2) ∧ (∀ acc S, I [] acc S → Q acc S)) : Ok (lComp s own γ t e c ρ) S Q := by
  unfold lComp
  rw [ok_bind]
  refine h.mono fun z S1 ⟨xs, I, e, i, st, q⟩ => ?_
  subst e
  exact ok_compFixI I st q xs [] S1 i
theorem s_setC {w : MO} {R : Sto} {i j : Nat} {xs : List D} {v : D} {Q : Unit → Sto → Prop} (h : R[i]? = some (.lst xs)) (hj : j < xs.length) (hp : pureL (xs.set j v) = true) (q : Q () (w :: R.set i (.lst (xs.set j v)))) : Ok (setItem (.loc (i + 1)) (.int j) v) (w :: R) Q := by
  refine s_set (n := i + 1) (j := j) (xs := xs) ?_ (ixN_nat hj) hp q
  rw [List.getElem?_cons_succ, h]
theorem s_repL {a : D} {n : Nat} {xs : List D} {S : Sto} {Q : List D → Sto → Prop} (h : litemsO S a = some xs) (l : xs.length ≤ 1000) (l2 : n ≤ 1000) (q : Q (List.replicate n xs).flatten S) : Ok (repL a (.int n)) S Q := by
  unfold repL
  refine s_bind (s_opt (a := xs) h ?_)
  show Ok (M.bind (chk (repOk xs.length (n : Int))) fun _ => M.pure (List.replicate (n : Int).toNat xs).flatten) S Q
  have hr : repOk xs.length (n : Int) = true := by
    unfold repOk
    refine decide_eq_true ⟨by omega, by omega, ?_⟩
    have := Nat.mul_le_mul l l2
    rw [Int.toNat_natCast]
    simp only [sizeLine]
    omega
  with_reducible refine s_bind ?_
  with_reducible refine s_chk hr ?_
  exact q
end MI
namespace Lw
open PySem MI
theorem at_39 : Fs[39]? = some F__law_walk := rfl
theorem ER.head {E : List (Nat × Nat)} {a b : Nat} (h : ER E a b) : a = b ∨ ∃ c, (a, c) ∈ E := by
  induction h with
  | refl => exact .inl rfl
  | step h1 e ih =>
    rcases ih with rfl | ih
    · exact .inr ⟨_, e⟩
    · exact .inr ih
/-- a table of weights being filled -/
structure TW (n : Nat) (t : Tab) : Prop where
  sq : Sq n t
  fr : ∀ r ∈ t, ∀ p ∈ r, p.2 = 1 ∧ 0 ≤ p.1 ∧ p.1 ≤ 1000003
def posAt (t : Tab) (e : Nat × Nat) : Prop := ∃ r p, t[e.1]? = some r ∧ r[e.2]? = some p ∧ 0 < p.1
theorem TW.put {n : Nat} {t : Tab} {i j : Nat} {r : List (Int × Int)} {a : Int} (h : TW n t) (hr : t[i]? = some r) (h1 : 1 ≤ a) (h2 : a ≤ 1000003) : TW n (t.set i (r.set j (a, 1))) := by
  have hm := List.mem_of_getElem? hr
  refine ⟨⟨by rw [List.length_set]; exact h.sq.1, fun s hs => ?_⟩, fun s hs p hp => ?_⟩
  · rcases List.mem_or_eq_of_mem_set hs with e | e
    · exact h.sq.2 s e
    · rw [e, List.length_set]; exact h.sq.2 r hm
  · rcases List.mem_or_eq_of_mem_set hs with e | e
    · exact h.fr s e p hp
    · rw [e] at hp
      rcases List.mem_or_eq_of_mem_set hp with e2 | e2
      · exact h.fr r hm p e2
      · rw [e2]; exact ⟨rfl, by show 0 ≤ a; omega, h2⟩
theorem posAt_put {t : Tab} {i j : Nat} {r : List (Int × Int)} {a : Int} (hr : t[i]? = some r) (h1 : 1 ≤ a) {e : Nat × Nat} (h : posAt t e) : posAt (t.set i (r.set j (a, 1))) e := by
  obtain ⟨s, p, h2, h3, h4⟩ := h
  by_cases g : i = e.1
  · subst g
    rw [hr] at h2
    cases h2
    have l := (List.getElem?_eq_some_iff.mp hr).1
    by_cases g2 : j = e.2
    · subst g2
      have l2 := (List.getElem?_eq_some_iff.mp h3).1
      exact ⟨_, (a, 1), List.getElem?_set_self l, List.getElem?_set_self l2, by show 0 < a; omega⟩
    · exact ⟨_, p, List.getElem?_set_self l, by rw [List.getElem?_set_ne g2]; exact h3, h4⟩
  · exact ⟨s, p, by rw [List.getElem?_set_ne g]; exact h2, h3, h4⟩
theorem posAt_new {t : Tab} {i j : Nat} {r : List (Int × Int)} {a : Int} (hr : t[i]? = some r) (hj : j < r.length) (h1 : 1 ≤ a) : posAt (t.set i (r.set j (a, 1))) (i, j) :=
  ⟨_, (a, 1), List.getElem?_set_self (List.getElem?_eq_some_iff.mp hr).1, List.getElem?_set_self hj, by show 0 < a; omega⟩
/-- each row over its sum -/
def normR (r : List (Int × Int)) : List (Int × Int) := r.map fun p => overF p (sumF r)
theorem over_pos {p s : Int × Int} (h1 : 0 < p.2) (h2 : 0 < s.1) (h3 : 0 < s.2) : (0 < (overF p s).1 ↔ 0 < p.1) ∧ (0 ≤ p.1 → 0 ≤ (overF p s).1) := by
  obtain ⟨g, g0, g1, g2, _⟩ := low_parts (up := p.1 * s.2) (Int.mul_pos h1 h2)
  have e : (overF p s).1 = (low (p.1 * s.2) (p.2 * s.1)).1 := rfl
  rw [← e] at g1
  generalize (overF p s).1 = a at g1
  constructor
  · constructor
    · intro h
      have h4 : 0 < p.1 * s.2 := by rw [g1]; exact Int.mul_pos g0 h
      exact Int.pos_of_mul_pos_left h4 h3
    · intro h
      have h4 : 0 < g * a := by rw [← g1]; exact Int.mul_pos h h3
      exact Int.pos_of_mul_pos_right h4 g0
  · intro h
    have h4 : 0 ≤ g * a := by rw [← g1]; exact Int.mul_nonneg h (Int.le_of_lt h3)
    exact Int.nonneg_of_mul_nonneg_right h4 g0
theorem div_sum (S : Rat) : ∀ xs : List Rat, (xs.map fun x => x / S).sum = xs.sum / S
  | [] => by
    simp only [List.map_nil, List.sum_nil, Rat.div_def, Rat.zero_mul]
  | x :: xs => by
    rw [List.map_cons, List.sum_cons, List.sum_cons, div_sum S xs, Rat.div_def, Rat.div_def, Rat.div_def]
    grind
open Classical in
theorem wholeAt_true {n : Nat} {t : Tab} {i : Int} (h : ∀ j, inR0 n j → Reach t i j) : wholeAt n t i = true := decide_eq_true h
structure Fine (n : Nat) (t : Tab) : Prop where
  ok : TabOk n t
  sums : sumsOk t = true
  whole : wholeB n t = true
  big : inD 250 (tabD t)
  com : ∀ r ∈ t, ∃ d : Int, 0 < d ∧ d.natAbs < 2 ^ 23 ∧ ∀ p ∈ r, ∃ a : Int, a.natAbs < 2 ^ 23 ∧ rq p = (a : Rat) / (d : Rat)
/-- weights in whole numbers: their sum -/
def isum : List (Int × Int) → Int
  | [] => 0
  | p :: r => p.1 + isum r
theorem rq_int (a : Int) : rq (a, 1) = (a : Rat) := by
  rw [rq_div (show (1 : Int) ≠ 0 by decide)]
  show (a : Rat) / ((1 : Int) : Rat) = _
  have : ((1 : Int) : Rat) = 1 := rfl
  rw [this, Rat.div_def]
  grind
theorem isum_q : ∀ r : List (Int × Int), (∀ p ∈ r, p.2 = 1) → (r.map rq).sum = (isum r : Rat)
  | [], _ => rfl
  | p :: r, h => by
    have h1 := h p List.mem_cons_self
    have e : p = (p.1, 1) := by rw [← h1]
    rw [List.map_cons, List.sum_cons, isum_q r fun x hx => h x (List.mem_cons_of_mem _ hx), isum, Rat.intCast_add]
    congr 1
    rw [e]
    exact rq_int p.1
theorem isum_lt : ∀ (r : List (Int × Int)), (∀ p ∈ r, 0 ≤ p.1 ∧ p.1 ≤ 1000003) → 0 ≤ isum r ∧ isum r ≤ r.length * 1000003
  | [], _ => by simp [isum]
  | p :: r, h => by
    have h1 := h p List.mem_cons_self
    have h2 := isum_lt r fun x hx => h x (List.mem_cons_of_mem _ hx)
    rw [isum, List.length_cons]
    omega
theorem sumF_int {r : List (Int × Int)} (h : ∀ p ∈ r, p.2 = 1) : sumF r = (isum r, 1) := by
  have h2 : ∀ p ∈ r, 0 < p.2 := fun p hp => by rw [h p hp]; decide
  refine rq_inj (sumF_red h2) ⟨show (0 : Int) < 1 by decide, ?_⟩ ?_
  · show Nat.gcd (isum r).natAbs 1 = 1
    exact Nat.gcd_one_right _
  · rw [sumF_q h2, isum_q r h, rq_int]
theorem rowB_of {n : Nat} {t : Tab} (h : TW n t) : ∀ r ∈ t, ∀ p ∈ r, fB 20 p := by
  intro r hr p hp
  obtain ⟨h1, h2, h3⟩ := h.fr r hr p hp
  exact ⟨by omega, by omega, by omega⟩
theorem norm_fine {n : Nat} {t : Tab} {E : List (Nat × Nat)} (h : TW n t) (n0 : 1 ≤ n) (n6 : n ≤ 6) (hE : ∀ e ∈ E, posAt t e) (con : ∀ a b, a < n → b < n → ER E a b) (h1 : n = 1 → (0, 0) ∈ E) : (∀ r ∈ t, 0 < (sumF r).1) ∧ Fine n (t.map normR) := by
  have hs : ∀ r ∈ t, 0 < (sumF r).1 := by
    intro r hr
    obtain ⟨i, hi, e⟩ := List.getElem_of_mem hr
    have hi2 : i < n := by rw [← h.sq.1]; exact hi
    have hc : ∃ c, (i, c) ∈ E := by
      rcases Nat.lt_or_ge 1 n with l | l
      · have : ∃ j, j < n ∧ i ≠ j := by
          rcases Nat.eq_zero_or_pos i with z | z
          · exact ⟨1, by omega, by omega⟩
          · exact ⟨0, by omega, by omega⟩
        obtain ⟨j, hj, ne⟩ := this
        rcases (con i j hi2 hj).head with e | e
        · exact (ne e).elim
        · exact e
      · have : n = 1 := by omega
        subst this
        have : i = 0 := by omega
        subst this
        exact ⟨0, h1 rfl⟩
    obtain ⟨c, hc⟩ := hc
    obtain ⟨r2, p, e1, e2, e3⟩ := hE _ hc
    have : r2 = r := by
      have e4 : t[i]? = some r := by rw [List.getElem?_eq_getElem hi, e]
      rw [e4] at e1
      exact (Option.some.inj e1).symm
    subst this
    exact sum_pos (fun p hp => by obtain ⟨h1, h2, _⟩ := h.fr r2 hr p hp; exact ⟨by omega, h2⟩) (List.mem_of_getElem? e2) e3
  have hB := rowB_of h
  have hp2 : ∀ r ∈ t, ∀ p ∈ r, 0 < p.2 := fun r hr p hp => (hB r hr p hp).1
  have ht : TabOk n (t.map normR) := by
    refine ⟨⟨by rw [List.length_map]; exact h.sq.1, fun s hs => ?_⟩, n0, n6, fun s hs' p hp => ?_⟩
    · obtain ⟨r, hr, rfl⟩ := List.mem_map.mp hs
      unfold normR
      rw [List.length_map]
      exact h.sq.2 r hr
    · obtain ⟨r, hr, rfl⟩ := List.mem_map.mp hs'
      obtain ⟨x, hx, rfl⟩ := List.mem_map.mp hp
      exact ⟨overF_red (hp2 r hr x hx) (hs r hr), (over_pos (hp2 r hr x hx) (hs r hr) (sumF_red (hp2 r hr)).1).2 (h.fr r hr x hx).2.1⟩
  refine ⟨hs, ht, ?_, ?_, ?_, ?_⟩
  · unfold sumsOk
    refine List.all_eq_true.mpr fun s hs' => ?_
    obtain ⟨r, hr, rfl⟩ := List.mem_map.mp hs'
    have hz := hs r hr
    have e : sumF (normR r) = (1, 1) := by
      refine (sumF_one fun p hp => ?_).mpr ?_
      · obtain ⟨x, hx, rfl⟩ := List.mem_map.mp hp
        exact (overF_red (hp2 r hr x hx) hz).1
      · have e1 : (normR r).map rq = (r.map rq).map fun x => x / rq (sumF r) := by
          unfold normR
          rw [List.map_map, List.map_map]
          refine List.map_congr_left fun x hx => ?_
          exact overF_q (hp2 r hr x hx) (sumF_red (hp2 r hr)).1 hz
        rw [e1, div_sum, ← sumF_q (hp2 r hr)]
        have := (rq_pos (sumF_red (hp2 r hr)).1).mpr hz
        grind
    rw [e]
    rfl
  · refine wholeB_iff.mpr fun i hi => ?_
    refine wholeAt_true fun j hj => ?_
    obtain ⟨j, rfl⟩ : ∃ m : Nat, j = m := ⟨j.toNat, by have := hj.1; omega⟩
    have hj2 : j < n := by have := hj.2; omega
    have := con i j hi hj2
    clear hj hj2
    induction this with
    | refl => exact .refl
    | step _ e ih =>
      obtain ⟨r, p, e1, e2, e3⟩ := hE _ e
      refine ih.step ?_
      have hr := List.mem_of_getElem? e1
      have hp := List.mem_of_getElem? e2
      refine (succ_mem (r := normR r) (p := overF p (sumF r)) ht ?_ ?_).mpr ?_
      · rw [List.getElem?_map, e1]; rfl
      · unfold normR
        rw [List.getElem?_map, e2]; rfl
      · exact (over_pos (hp2 r hr p hp) (hs r hr) (sumF_red (hp2 r hr)).1).1.mpr e3
  · refine inD_tup.mpr fun x hx => ?_
    obtain ⟨s, hs', rfl⟩ := List.mem_map.mp hx
    obtain ⟨r, hr, rfl⟩ := List.mem_map.mp hs'
    refine inD_tup.mpr fun y hy => ?_
    obtain ⟨q, hq, rfl⟩ := List.mem_map.mp hy
    obtain ⟨p, hp, rfl⟩ := List.mem_map.mp hq
    have b1 := sumF_size (hB r hr)
    have l : r.length ≤ 6 := by rw [h.sq.2 r hr]; exact n6
    have b2 := overF_size (hB r hr p hp) b1 (hs r hr)
    have b3 := b2.up (m := 250) (by have := Nat.mul_le_mul l (Nat.le_refl 21); omega)
    refine inD_tup.mpr fun z hz => ?_
    rcases List.mem_cons.mp hz with e | hz
    · rw [e]; exact b3.2.1
    · rw [List.mem_singleton.mp hz]; exact b3.2.2
  · intro s hs'
    obtain ⟨r, hr, rfl⟩ := List.mem_map.mp hs'
    have h1 : ∀ p ∈ r, p.2 = 1 := fun p hp => (h.fr r hr p hp).1
    have e := sumF_int h1
    have z := hs r hr
    have b := isum_lt r fun p hp => (h.fr r hr p hp).2
    have l : r.length ≤ 6 := by rw [h.sq.2 r hr]; exact n6
    rw [e] at z
    have z : 0 < isum r := z
    refine ⟨isum r, z, by omega, fun q hq => ?_⟩
    obtain ⟨p, hp, rfl⟩ := List.mem_map.mp hq
    have h2 := (h.fr r hr p hp).2
    refine ⟨p.1, by omega, ?_⟩
    rw [overF_q (hp2 r hr p hp) (sumF_red (hp2 r hr)).1 (hs r hr), e, rq_int]
    congr 1
    rw [show p = (p.1, 1) by rw [← h1 p hp]]
    exact rq_int p.1
/-- the rows' cells -/
def RC (B : Nat) (R : Sto) (t : Tab) : Prop := ∀ (i : Nat) (r : List (Int × Int)), t[i]? = some r → R[B + 2 * i + 1]? = some (.lst (r.map pd))
theorem RC.app {B : Nat} {R X : Sto} {t : Tab} (h : RC B R t) : RC B (R ++ X) t := fun i r hr => app_get (h i r hr)
theorem RC.put {B i : Nat} {R : Sto} {t : Tab} {r s : List (Int × Int)} (h : RC B R t) (hr : t[i]? = some r) : RC B (R.set (B + 2 * i + 1) (.lst (s.map pd))) (t.set i s) := by
  intro j u hu
  by_cases g : i = j
  · subst g
    rw [List.getElem?_set_self (List.getElem?_eq_some_iff.mp hr).1] at hu
    cases hu
    exact put_self (h i r hr)
  · rw [List.getElem?_set_ne g] at hu
    exact put_ne (h j u hu) (by omega)
theorem RC.ne {B i : Nat} {R : Sto} {t : Tab} {v : MO} (h : RC B R t) (l : i < B) : RC B (R.set i v) t := fun j r hr => put_ne (h j r hr) (by omega)
theorem sets_pd (r : List (Int × Int)) (j : Nat) (p : Int × Int) : (r.map pd).set j (pd p) = (r.set j p).map pd := by rw [List.map_set]
theorem rep_pd (n : Nat) : (List.replicate n [D.tup [.int 0, .int 1]]).flatten = (List.replicate n ((0 : Int), (1 : Int))).map pd := by
  rw [List.map_replicate]
  induction n with
  | zero => rfl
  | succ n ih =>
    rw [List.replicate_succ, List.flatten_cons, ih, List.replicate_succ]
    rfl
def rowsD (B n : Nat) : List D := (List.range n).map fun i => .loc (B + 2 * i + 1 + 1)
theorem rowsD_succ (B n : Nat) : rowsD B n ++ [.loc (B + 2 * n + 1 + 1)] = rowsD B (n + 1) := by
  unfold rowsD
  rw [List.range_succ, List.map_append]
  rfl
theorem rowsD_get {B n i : Nat} (h : i < n) : (rowsD B n)[i]? = some (.loc (B + 2 * i + 1 + 1)) := by
  unfold rowsD
  rw [List.getElem?_map, List.getElem?_range h]
  rfl
/-- the store while a walk is drawn -/
structure WS (B : Nat) (T R : Sto) (E : List (Nat × Nat)) (t : Tab) : Prop where
  tk : R.take T.length = T
  lt : T.length ≤ R.length
  bm : T.length + 2 < B
  cE : R[T.length + 2]? = some (.lst (E.map ed))
  rc : RC B R t
def rowH (B : Nat) (t : Tab) : D → Option D
  | .loc m => (t[(m - 2 - B) / 2]?).map fun r => rowD (normR r)
  | _ => none
theorem ok_law_walk {k N n : Nat} {w : List D} {T : Sto} {Q : D → Sto → Prop} (hw : Wd N w) (hN : N < 2 ^ 57) (n0 : 1 ≤ n) (n6 : n ≤ 6) (q : ∀ w' t, Wd (N + 600) w' → Fine n t → Q (tabD t) (.lst w' :: T)) : Ok (callF Fs (k + 5) 39 [.loc 0, natD n]) (.lst w :: T) Q := by
  with_reducible refine s_call at_39 (by with_unfolding_all rfl) ?_
  unfold F__law_walk
  dsimp only
  (repeat walk_at "mi")
  with_reducible refine w_par ?_
  (repeat walk_at "mi")
  with_reducible refine ok_law_ears hw (by omega) n0 n6 fun w1 R E hw1 tk tl cE rng lE con => ?_
  (repeat walk_at "mi")
  with_reducible refine w_compFI (w_range1 ?_)
  (repeat walk_at "mi")
  refine ⟨n, rfl, ?_, _, fun xs acc S1 => ∃ (i : Nat) (R' : Sto), xs = rangeL ((i : Nat) : Int) (n - i) ∧ i ≤ n ∧ acc = rowsD R.length i ∧ S1 = .lst w1 :: R' ∧ R'.length = R.length + 2 * i ∧ WS R.length T R' E (List.replicate i (List.replicate n (0, 1))), rfl, ?_, ?_, ?_⟩
  · unfold inR
    exact decide_eq_true (by omega)
  · exact ⟨0, R, rfl, Nat.zero_le _, rfl, rfl, rfl, tk, tl, (List.getElem?_eq_some_iff.mp cE).1, cE, fun i r hr => by simp at hr⟩
  · intro x xs acc S1 ⟨i, R', e1, li, e2, e3, lr, ws⟩
    obtain ⟨li2, e4, e5⟩ := rangeL_succ e1
    subst e2 e3 e4
    refine ⟨by unfold rowsD; rw [List.length_map, List.length_range]; omega, ?_⟩
    (repeat walk_at "mi")
    with_reducible refine s_newC (by with_unfolding_all rfl) ?_
    (repeat walk_at "mi")
    show Ok (repL (.loc (R'.length + 1)) (.int n)) _ _
    with_reducible refine s_repL (lit_C app_new) (by simp) (by omega) ?_
    rw [rep_pd]
    (repeat walk_at "mi")
    with_reducible refine s_newC (pure_pds _) ?_
    (repeat walk_at "mi")
    refine ⟨i + 1, _, e5, li2, ?_, rfl, ?_, ?_⟩
    · rw [← rowsD_succ]
      congr 3
      rw [List.length_append, lr]
      rfl
    · rw [List.length_append, List.length_append, lr]
      simp only [List.length_singleton]
      omega
    · refine ⟨take_app (take_app ws.tk ws.lt) (by rw [List.length_append]; have := ws.lt; omega), by rw [List.length_append, List.length_append]; have := ws.lt; omega, ws.bm, app_get (app_get ws.cE), ?_⟩
      intro j r hr
      rcases Nat.lt_or_ge j i with l | l
      · refine app_get (app_get (ws.rc j r ?_))
        rw [List.getElem?_replicate] at hr ⊢
        rw [if_pos (by omega)] at hr
        rw [if_pos l]
        exact hr
      · rw [List.getElem?_replicate] at hr
        split at hr
        · rename_i l2
          have : j = i := by omega
          subst this
          cases hr
          have e6 : R.length + 2 * j + 1 = (R' ++ [MO.lst [D.tup [.int 0, .int 1]]]).length := by
            rw [List.length_append, lr]
            rfl
          rw [e6]
          exact app_new
        · cases hr
  · intro acc S1 ⟨i, R', e1, li, e2, e3, lr, ws⟩
    have := rangeL_nil e1 li
    subst this
    subst e2 e3
    (repeat walk_at "mi")
    refine ⟨rfl, ?_⟩
    generalize R.length = B at ws lr ⊢
    have tw : TW i (List.replicate i (List.replicate i (0, 1))) := by
      refine ⟨⟨List.length_replicate, fun r hr => ?_⟩, fun r hr p hp => ?_⟩
      · rw [(List.mem_replicate.mp hr).2, List.length_replicate]
      · rw [(List.mem_replicate.mp hr).2] at hp
        rw [(List.mem_replicate.mp hp).2]
        exact ⟨rfl, by decide, by decide⟩
    generalize List.replicate i (List.replicate i ((0 : Int), (1 : Int))) = t at ws tw
    clear lr cE tk tl e1 li
    (repeat walk_at "mi")
    with_reducible refine w_for (w_range1 ?_)
    (repeat walk_at "mi")
    show Ok (mulA (.int 2) (.int i)) _ _
    with_reducible refine s_mul (mul_small (by decide) (by omega)) ?_
    (repeat walk_at "mi")
    with_reducible refine ok_law_pick hw1 (by omega) (by omega) (by omega) fun w2 r hw2 r0 r1 => ?_
    (repeat walk_at "mi")
    obtain ⟨c, hc⟩ : ∃ c : Nat, r = c := ⟨r.toNat, by omega⟩
    subst hc
    refine ⟨c, rfl, ?_, _, rfl, ?_⟩
    · unfold inR
      exact decide_eq_true (by omega)
    rw [Int.toNat_natCast]
    refine ok_forFix (fun xs ρ S1 => ∃ (s : Nat) (w : List D) (R : Sto) (E' : List (Nat × Nat)) (o2 o5 o6 o7 : Option D), xs = rangeL ((s : Nat) : Int) (c - s) ∧ s ≤ c ∧ ρ = [some (.loc 0), some (natD i), o2, some (.loc (T.length + 3)), some (.lst (rowsD B i)), o5, o6, o7] ∧ S1 = .lst w :: R ∧ Wd (N + 201 + 2 * s) w ∧ WS B T R E' t ∧ (∀ e ∈ E, e ∈ E') ∧ (∀ e ∈ E', e.1 < i ∧ e.2 < i) ∧ E'.length ≤ 2 * i + s) _ _ _ ⟨0, w2, R', E, _, _, _, _, rfl, Nat.zero_le _, rfl, rfl, hw2, ws, fun e h => h, rng, lE⟩ ?_ ?_
    · intro y ys ρ S1 ⟨s, w, R, E', o2, o5, o6, o7, e1, ls, e2, e3, hw, ws, hE, rng, lE⟩
      obtain ⟨ls2, e4, e5⟩ := rangeL_succ e1
      subst e2 e3 e4
      (repeat walk_at "mi")
      show Ok (callF Fs (k + 4) 29 [.loc 0, .int i]) _ _
      with_reducible refine ok_law_pick hw (by omega) (by omega) (by omega) fun w3 r3 hw3 r30 r31 => ?_
      (repeat walk_at "mi")
      obtain ⟨a, ha⟩ : ∃ c : Nat, r3 = c := ⟨r3.toNat, by omega⟩
      subst ha
      with_reducible refine s_litC ws.cE ?_
      (repeat walk_at "mi")
      show Ok (callF Fs (k + 4) 29 [.loc 0, .int i]) _ _
      with_reducible refine ok_law_pick hw3 (by omega) (by omega) (by omega) fun w4 r4 hw4 r40 r41 => ?_
      (repeat walk_at "mi")
      obtain ⟨b, hb⟩ : ∃ c : Nat, r4 = c := ⟨r4.toNat, by omega⟩
      subst hb
      have hp : E'.map ed ++ [.tup [.int a, .int b]] = (E' ++ [(a, b)]).map ed := eds_push E' a b
      with_reducible refine s_appC ws.cE (by rw [List.length_map]; omega) ((congrArg pureL hp).trans (pure_eds _)) ?_
      (repeat walk_at "mi")
      have hb := ws.bm
      refine ⟨s + 1, w4, _, E' ++ [(a, b)], _, _, _, _, e5, ls2, rfl, rfl, hw4, ⟨take_put ws.tk (by omega), by rw [List.length_set]; exact ws.lt, ws.bm, ?_, ws.rc.ne hb⟩, fun e h => List.mem_append.mpr (.inl (hE e h)), fun e h => ?_, by rw [List.length_append]; simp only [List.length_singleton]; omega⟩
      · have := put_self (u := .lst (E'.map ed ++ [.tup [.int a, .int b]])) ws.cE
        rw [this, hp]
      · rcases List.mem_append.mp h with h | h
        · exact rng e h
        · rw [List.mem_singleton.mp h]
          exact ⟨by show a < i; omega, by show b < i; omega⟩
    · intro ρ S1 ⟨s, w, R, E', o2, o5, o6, o7, e1, ls, e2, e3, hw, ws, hE, rng, lE⟩
      subst e2 e3
      -- the rest, with any steps
      have rest : ∀ (R : Sto) (E' : List (Nat × Nat)), WS B T R E' t → (∀ e ∈ E, e ∈ E') → (∀ e ∈ E', e.1 < i ∧ e.2 < i) → E'.length ≤ 40 → (i = 1 → (0, 0) ∈ E') → Ok (sFor (iSeq (eVar 3)) (gTup [(gName 5), (gName 6)]) (sSeq (sAsg (eCall 38 (aCons (eVar 0) aNil)) (gSub (eItem (eVar 4) (eVar 5)) (eVar 6))) sNext) (callF Fs (k + 4)) [some (.loc 0), some (natD i), o2, some (.loc (T.length + 3)), some (.lst (rowsD B i)), o5, o6, o7]) (.lst w :: R) fun fl S1 => ∃ (w : List D) (R : Sto) (t : Tab) (o5 o6 : Option D), fl = .nx [some (.loc 0), some (natD i), o2, some (.loc (T.length + 3)), some (.lst (rowsD B i)), o5, o6, o7] ∧ S1 = .lst w :: R ∧ Wd (N + 500) w ∧ WS B T R E' t ∧ TW i t ∧ (∀ e ∈ E', posAt t e) := by
        intro R E' ws hE rng lE h1
        with_reducible refine w_forI ?_
        (repeat walk_at "mi")
        refine ⟨E'.map ed, fun xs ρ S1 => ∃ (done todo : List (Nat × Nat)) (w : List D) (R : Sto) (t : Tab) (o5 o6 : Option D), E' = done ++ todo ∧ xs = todo.map ed ∧ ρ = [some (.loc 0), some (natD i), o2, some (.loc (T.length + 3)), some (.lst (rowsD B i)), o5, o6, o7] ∧ S1 = .lst w :: R ∧ Wd (N + 201 + 2 * s + 2 * done.length) w ∧ WS B T R E' t ∧ TW i t ∧ (∀ e ∈ done, posAt t e), it_C ws.cE, by rw [List.length_map]; omega, ⟨[], E', w, R, t, o5, o6, rfl, rfl, rfl, rfl, hw, ws, tw, fun e h => nomatch h⟩, ?_, ?_, ?_⟩
        · intro xs ρ S1 ⟨done, todo, w, R, t, o5, o6, e1, e2, e3, e4, hw, ws, tw, hp⟩
          rw [e4]
          exact it_C ws.cE
        · intro x xs ρ S1 ⟨done, todo, w, R, t, o5, o6, e1, e2, e3, e4, hw, ws, tw, hp⟩
          subst e3 e4
          cases todo with
          | nil => cases e2
          | cons e todo =>
            obtain ⟨rfl, rfl⟩ := List.cons.inj e2
            have he := rng e (by rw [e1]; simp)
            have ld : done.length < 40 := by
              have := congrArg List.length e1
              rw [List.length_append, List.length_cons] at this
              omega
            show Ok (gTup [gName 5, gName 6] (callF Fs (k + 4)) (.tup [natD e.1, natD e.2]) _) _ _
            with_reducible refine w_gtup2 ?_
            (repeat walk_at "mi")
            with_reducible refine ok_law_part hw (by omega) fun w2 a hw2 a0 a1 => ?_
            (repeat walk_at "mi")
            with_reducible refine w_gsub ?_
            (repeat walk_at "mi")
            with_reducible refine w_getItem ⟨.loc (B + 2 * e.1 + 1 + 1), ?_, ?_⟩
            · show L2.atI (rowsD B i) (e.1 : Int) = _
              exact atI_nat (rowsD_get he.1)
            (repeat walk_at "mi")
            have h2 : e.1 < t.length := by rw [tw.sq.1]; exact he.1
            have hr : t[e.1]? = some t[e.1] := List.getElem?_eq_getElem h2
            have hrl : t[e.1].length = i := tw.sq.2 _ (List.getElem_mem h2)
            generalize t[e.1] = r at hr hrl
            show Ok (setItem (.loc (B + 2 * e.1 + 1 + 1)) (.int e.2) (pd (a, 1))) _ _
            have hs := sets_pd r e.2 (a, 1)
            have hj : e.2 < (r.map pd).length := by rw [List.length_map, hrl]; exact he.2
            have hcell : R[B + 2 * e.1 + 1]? = some (.lst (r.map pd)) := ws.rc e.1 r hr
            with_reducible refine s_setC hcell hj ((congrArg pureL hs).trans (pure_pds _)) ?_
            rw [hs]
            (repeat walk_at "mi")
            have hb := ws.bm
            refine ⟨done ++ [e], todo, w2, _, t.set e.1 (r.set e.2 (a, 1)), _, _, by rw [e1]; simp, rfl, rfl, rfl, hw2.up (by rw [List.length_append]; simp only [List.length_singleton]; omega), ⟨take_put ws.tk (by omega), by rw [List.length_set]; exact ws.lt, ws.bm, put_ne ws.cE (by omega), ws.rc.put hr⟩, tw.put hr a0 a1, fun z hz => ?_⟩
            rcases List.mem_append.mp hz with hz | hz
            · exact posAt_put hr a0 (hp z hz)
            · rw [List.mem_singleton.mp hz]
              exact posAt_new hr (by rw [hrl]; exact he.2) a0
        · intro ρ S1 ⟨done, todo, w, R, t, o5, o6, e1, e2, e3, e4, hw, ws, tw, hp⟩
          cases todo with
          | cons _ _ => cases e2
          | nil =>
            rw [List.append_nil] at e1
            subst e1
            exact ⟨w, R, t, o5, o6, congrArg Fl.nx e3, e4, hw.up (by omega), ws, tw, hp⟩
      have fin : ∀ (w : List D) (R : Sto) (t : Tab) (E' : List (Nat × Nat)) (o2 o5 o6 o7 : Option D), Wd (N + 500) w → WS B T R E' t → TW i t → (∀ e ∈ E', posAt t e) → (∀ e ∈ E, e ∈ E') → (i = 1 → (0, 0) ∈ E') → Ok (sSeq (sRet (eB (b1 tupO) (aCons (eFz (lComp (iSeq (eVar 4)) [7] (gName 7) tYes (eCall 36 (aCons (eVar 7) aNil)))) aNil))) sNext (callF Fs (k + 4)) [some (.loc 0), some (natD i), o2, some (.loc (T.length + 3)), some (.lst (rowsD B i)), o5, o6, o7]) (.lst w :: R) fun fl S' => match fl with
          | .nx _ => Ok (finish true (T.length + 1) .non) S' Q
          | .rt d => Ok (finish true (T.length + 1) d) S' Q
          | _ => False := by
        intro w R t E' o2 o5 o6 o7 hw ws tw hp hE h1
        obtain ⟨hs, fine⟩ := norm_fine tw n0 n6 hp (fun a b ha hb => (con a b ha hb).mono hE) h1
        have hB := rowB_of tw
        (repeat walk_at "mi")
        with_reducible refine w_compI (rowH B t) ?_
        (repeat walk_at "mi")
        refine ⟨rfl, by unfold rowsD; rw [List.length_map, List.length_range]; omega, fun x hx => ?_, ?_⟩
        · obtain ⟨j, hj, rfl⟩ := List.mem_map.mp hx
          have hj2 : j < t.length := by rw [tw.sq.1]; exact List.mem_range.mp hj
          have hr : t[j]? = some t[j] := List.getElem?_eq_getElem hj2
          have hm := List.getElem_mem hj2
          generalize t[j] = r at hr hm
          have hrl := tw.sq.2 r hm
          (repeat walk_at "mi")
          have hcell : R[B + 2 * j + 1]? = some (.lst (r.map pd)) := ws.rc j r hr
          with_reducible refine ok_law_over_sum (it_C hcell) (hB r hm) (by omega) (by omega) (hs r hm) ?_
          refine ⟨?_, rfl⟩
          show (t[(B + 2 * j + 1 + 1 - 2 - B) / 2]?).map _ = _
          rw [show (B + 2 * j + 1 + 1 - 2 - B) / 2 = j by omega, hr]
          rfl
        · have e : (rowsD B i).filterMap (rowH B t) = (t.map normR).map rowD := by
            unfold rowsD
            rw [List.filterMap_map, List.map_map]
            refine List.ext_getElem? fun j => ?_
            have : ∀ (m : Nat), m ≤ i → (List.range m).filterMap (rowH B t ∘ fun i => D.loc (B + 2 * i + 1 + 1)) = (t.take m).map (rowD ∘ normR) := by
              intro m
              induction m with
              | zero => intro _; simp
              | succ m ih =>
                intro hm
                have hm2 : m < t.length := by rw [tw.sq.1]; omega
                rw [List.range_succ, List.filterMap_append, ih (by omega), List.take_succ, List.map_append]
                congr 1
                have e2 : (rowH B t ∘ fun i => D.loc (B + 2 * i + 1 + 1)) m = some (rowD (normR t[m])) := by
                  show (t[(B + 2 * m + 1 + 1 - 2 - B) / 2]?).map _ = _
                  rw [show (B + 2 * m + 1 + 1 - 2 - B) / 2 = m by omega, List.getElem?_eq_getElem hm2]
                  rfl
                rw [List.filterMap_cons_some e2, List.getElem?_eq_getElem hm2]
                rfl
            rw [this i (Nat.le_refl _), List.take_of_length_le (by rw [tw.sq.1]; omega)]
          rw [e]
          (repeat walk_at "mi")
          with_reducible refine s_finT ?_ ?_
          · exact pure_rows _
          · have e2 : List.take (T.length + 1) (MO.lst w :: R) = .lst w :: T := by
              rw [List.take_succ_cons, ws.tk]
            rw [e2]
            exact q w _ (hw.up (by omega)) fine
      (repeat walk_at "mi")
      by_cases g : (i : Int) = 1
      · have gi : i = 1 := by omega
        rw [beq_iff_eq.mpr g]
        (repeat walk_at "mi")
        with_reducible refine s_litC ws.cE ?_
        (repeat walk_at "mi")
        have hp : E'.map ed ++ [.tup [.int 0, .int 0]] = (E' ++ [(0, 0)]).map ed := eds_push E' 0 0
        with_reducible refine s_appC ws.cE (by rw [List.length_map]; omega) ((congrArg pureL hp).trans (pure_eds _)) ?_
        (repeat walk_at "mi")
        have hb := ws.bm
        refine (rest _ (E' ++ [(0, 0)]) ⟨take_put ws.tk (by omega), by rw [List.length_set]; exact ws.lt, ws.bm, ?_, ws.rc.ne hb⟩ (fun e h => List.mem_append.mpr (.inl (hE e h))) (fun e h => ?_) (by rw [List.length_append]; simp only [List.length_singleton]; omega) (fun _ => by simp)).mono ?_
        · have := put_self (u := .lst (E'.map ed ++ [.tup [.int 0, .int 0]])) ws.cE
          refine this.trans ?_
          rw [hp]
        · rcases List.mem_append.mp h with h | h
          · exact rng e h
          · rw [List.mem_singleton.mp h]
            exact ⟨by show 0 < i; omega, by show 0 < i; omega⟩
        · intro fl S1 ⟨w, R, t, o5, o6, e1, e2, hw, ws, tw, hp⟩
          subst e1 e2
          exact fin w R t _ _ _ _ _ hw ws tw hp (fun e h => List.mem_append.mpr (.inl (hE e h))) (fun _ => by simp)
      · have gi : i ≠ 1 := by omega
        rw [beq_eq_false_iff_ne.mpr g]
        (repeat walk_at "mi")
        refine (rest R E' ws hE rng (by omega) (fun h => (gi h).elim)).mono ?_
        intro fl S1 ⟨w, R, t, o5, o6, e1, e2, hw, ws, tw, hp⟩
        subst e1 e2
        exact fin w R t _ _ _ _ _ hw ws tw hp hE (fun h => (gi h).elim)
end Lw

/-! KG: walks of states, shares by leaving out states, sizes. -/
namespace Lw
/-! sums of rational numbers -/
abbrev Mat := Nat → Nat → Rat
def sumTo (f : Nat → Rat) : Nat → Rat
  | 0 => 0
  | n + 1 => sumTo f n + f n
theorem sumTo_congr {f g : Nat → Rat} : ∀ {n : Nat}, (∀ i, i < n → f i = g i) → sumTo f n = sumTo g n
  | 0, _ => rfl
  | n + 1, h => by
    show sumTo f n + f n = sumTo g n + g n
    rw [sumTo_congr fun i hi => h i (by omega), h n (by omega)]
theorem sumTo_add (f g : Nat → Rat) : ∀ n : Nat, sumTo (fun i => f i + g i) n = sumTo f n + sumTo g n
  | 0 => by simp only [sumTo]; grind
  | n + 1 => by
    simp only [sumTo]
    rw [sumTo_add f g n]
    grind
theorem sumTo_mul (c : Rat) (f : Nat → Rat) : ∀ n : Nat, sumTo (fun i => c * f i) n = c * sumTo f n
  | 0 => by simp only [sumTo]; grind
  | n + 1 => by
    simp only [sumTo]
    rw [sumTo_mul c f n]
    grind
theorem sumTo_zero : ∀ n : Nat, sumTo (fun _ => 0) n = 0
  | 0 => rfl
  | n + 1 => by
    simp only [sumTo]
    rw [sumTo_zero n]
    grind
theorem sumTo_nonneg {f : Nat → Rat} : ∀ {n : Nat}, (∀ i, i < n → 0 ≤ f i) → 0 ≤ sumTo f n
  | 0, _ => Rat.le_refl
  | n + 1, h => by
    have h1 := sumTo_nonneg (f := f) (n := n) fun i hi => h i (by omega)
    have h2 := h n (by omega)
    simp only [sumTo]
    grind
theorem sumTo_ge {f : Nat → Rat} : ∀ {n j : Nat}, (∀ i, i < n → 0 ≤ f i) → j < n → f j ≤ sumTo f n
  | 0, _, _, h => by omega
  | n + 1, j, h, hj => by
    have h1 := sumTo_nonneg (f := f) (n := n) fun i hi => h i (by omega)
    have h2 := h n (by omega)
    simp only [sumTo]
    rcases Nat.lt_or_ge j n with l | l
    · have := sumTo_ge (f := f) (n := n) (fun i hi => h i (by omega)) l
      grind
    · have : j = n := by omega
      subst this
      grind
theorem sumTo_pos {f : Nat → Rat} {n j : Nat} (h : ∀ i, i < n → 0 ≤ f i) (hj : j < n) (p : 0 < f j) : 0 < sumTo f n := by
  have := sumTo_ge h hj
  grind
theorem sumTo_swap (f : Nat → Nat → Rat) (n : Nat) : ∀ m : Nat, sumTo (fun i => sumTo (fun j => f i j) n) m = sumTo (fun j => sumTo (fun i => f i j) m) n
  | 0 => by simp only [sumTo]; rw [sumTo_zero]
  | m + 1 => by
    simp only [sumTo]
    rw [sumTo_swap f n m, sumTo_add]
theorem mul_nn {a b : Rat} (h : 0 ≤ a) (i : 0 ≤ b) : 0 ≤ a * b := Rat.mul_nonneg h i
theorem div_nn {a b : Rat} (h : 0 ≤ a) (i : 0 < b) : 0 ≤ a / b := by
  rw [Rat.div_def]
  have := Rat.inv_pos.mpr i
  exact Rat.mul_nonneg h (by grind)
theorem div_ps {a b : Rat} (h : 0 < a) (i : 0 < b) : 0 < a / b := by
  rw [Rat.div_def]
  exact Rat.mul_pos h (Rat.inv_pos.mpr i)
/-! walks of states 0 to n - 1 -/
inductive RQ (n : Nat) (P : Mat) (a : Nat) : Nat → Prop where
  | refl : RQ n P a a
  | step {b c : Nat} : RQ n P a b → c < n → 0 < P b c → RQ n P a c
structure Irr (n : Nat) (P : Mat) : Prop where
  nn : ∀ i, i < n → ∀ j, j < n → 0 ≤ P i j
  row : ∀ i, i < n → sumTo (P i) n = 1
  con : ∀ a, a < n → ∀ b, b < n → RQ n P a b
theorem RQ.lt {n : Nat} {P : Mat} {a b : Nat} (h : RQ n P a b) (ha : a < n) : b < n := by
  cases h with
  | refl => exact ha
  | step _ h _ => exact h
theorem RQ.out {m : Nat} {P : Mat} {b : Nat} (h : RQ (m + 1) P m b) : b = m ∨ ∃ c, c < m ∧ 0 < P m c := by
  induction h with
  | refl => exact .inl rfl
  | @step b c h1 hc p ih =>
    rcases ih with rfl | ih
    · rcases Nat.lt_or_ge c b with l | l
      · exact .inr ⟨c, l, p⟩
      · exact .inl (by omega)
    · exact .inr ih
theorem RQ.into {m : Nat} {P : Mat} {a b : Nat} (h : RQ (m + 1) P a b) (ha : a < m) : b = m → ∃ c, c < m ∧ 0 < P c m := by
  induction h with
  | refl => intro e; omega
  | @step b c h1 hc p ih =>
    intro e
    subst e
    rcases Nat.lt_or_ge b c with l | l
    · exact ⟨b, l, p⟩
    · have := h1.lt (by omega)
      exact ih (by omega)
theorem Irr.goes {m : Nat} {P : Mat} (h : Irr (m + 1) P) (hm : 1 ≤ m) : 0 < sumTo (P m) m := by
  rcases (h.con m (by omega) 0 (by omega)).out with e | ⟨c, hc, p⟩
  · omega
  · exact sumTo_pos (fun i hi => h.nn m (by omega) i (by omega)) hc p
theorem Irr.come {m : Nat} {P : Mat} (h : Irr (m + 1) P) (hm : 1 ≤ m) : ∃ c, c < m ∧ 0 < P c m := (h.con 0 (by omega) m (by omega)).into (by omega) rfl
/-- the last state left out -/
def elim (P : Mat) (m : Nat) : Mat := fun j i => P j i + P j m / sumTo (P m) m * P m i
theorem Irr.elim {m : Nat} {P : Mat} (h : Irr (m + 1) P) (hm : 1 ≤ m) : Irr m (elim P m) := by
  have g := h.goes hm
  have ge : ∀ j, j < m → ∀ i, i < m → P j i ≤ Lw.elim P m j i := fun j hj i hi => by
    have h1 := mul_nn (div_nn (h.nn j (by omega) m (by omega)) g) (h.nn m (by omega) i (by omega))
    unfold Lw.elim
    grind
  refine ⟨fun i hi j hj => ?_, fun j hj => ?_, fun a ha b hb => ?_⟩
  · have h1 := ge i hi j hj
    have h2 := h.nn i (by omega) j (by omega)
    grind
  · unfold Lw.elim
    rw [sumTo_add, sumTo_mul]
    have h1 : sumTo (P j) m + P j m = 1 := h.row j (by omega)
    have h2 : P j m / sumTo (P m) m * sumTo (P m) m = P j m := Rat.div_mul_cancel (by grind)
    rw [h2]
    exact h1
  · have key : ∀ b, RQ (m + 1) P a b → (b < m → RQ m (Lw.elim P m) a b) ∧ (b = m → ∃ c, c < m ∧ RQ m (Lw.elim P m) a c ∧ 0 < P c m) := by
      intro b r
      induction r with
      | refl => exact ⟨fun _ => .refl, fun e => by omega⟩
      | @step b c r1 hc p ih =>
        have hb2 := r1.lt (by omega)
        rcases Nat.lt_or_ge b m with l | l
        · have r2 := ih.1 l
          refine ⟨fun hc2 => r2.step hc2 ?_, fun e => ⟨b, l, r2, by rw [← e]; exact p⟩⟩
          have := ge b l c hc2
          grind
        · have e : b = m := by omega
          subst e
          obtain ⟨d, hd, r2, p2⟩ := ih.2 rfl
          refine ⟨fun hc2 => r2.step hc2 ?_, fun e => ⟨d, hd, r2, by rw [← e] at p2 ⊢; exact p2⟩⟩
          unfold Lw.elim
          have h1 := Rat.mul_pos (div_ps p2 g) p
          have h2 := h.nn d (by omega) c (by omega)
          grind
    exact (key b (h.con a (by omega) b (by omega))).1 hb
/-- the shares, not yet over their sum -/
def vec : Nat → Mat → Nat → Rat
  | 0, _, _ => 1
  | 1, _, _ => 1
  | m + 2, P, i => if i < m + 1 then vec (m + 1) (elim P (m + 1)) i else sumTo (fun j => vec (m + 1) (elim P (m + 1)) j * (P j (m + 1) / sumTo (P (m + 1)) (m + 1))) (m + 1)
theorem vec_stat : ∀ (n : Nat) (P : Mat), Irr n P → 1 ≤ n → (∀ i, i < n → 0 < vec n P i) ∧ ∀ i, i < n → sumTo (fun j => vec n P j * P j i) n = vec n P i
  | 0, _, _, h => by omega
  | 1, P, h, _ => by
    refine ⟨fun i _ => by simp only [vec]; grind, fun i hi => ?_⟩
    have : i = 0 := by omega
    subst this
    have := h.row 0 (by omega)
    simp only [sumTo, vec] at *
    grind
  | m + 2, P, h, _ => by
    have he := h.elim (by omega)
    obtain ⟨p, st⟩ := vec_stat (m + 1) (elim P (m + 1)) he (by omega)
    have g := h.goes (by omega)
    obtain ⟨c, hc, pc⟩ := h.come (by omega)
    have lo : ∀ i, i < m + 1 → vec (m + 2) P i = vec (m + 1) (elim P (m + 1)) i := fun i hi => by
      simp only [vec, if_pos hi]
    have hi : vec (m + 2) P (m + 1) = sumTo (fun j => vec (m + 1) (elim P (m + 1)) j * (P j (m + 1) / sumTo (P (m + 1)) (m + 1))) (m + 1) := by
      simp only [vec, if_neg (Nat.lt_irrefl _)]
    have pos : ∀ i, i < m + 2 → 0 < vec (m + 2) P i := fun i hi2 => by
      rcases Nat.lt_or_ge i (m + 1) with l | l
      · rw [lo i l]; exact p i l
      · have : i = m + 1 := by omega
        subst this
        rw [hi]
        refine sumTo_pos (j := c) (fun j hj => ?_) hc ?_
        · exact mul_nn (by have := p j hj; grind) (div_nn (h.nn j (by omega) (m + 1) (by omega)) g)
        · exact Rat.mul_pos (p c hc) (div_ps pc g)
    refine ⟨pos, fun i hi2 => ?_⟩
    generalize hv : vec (m + 2) P = v at lo hi pos ⊢
    have hs : sumTo (fun j => v j * P j i) (m + 2) = sumTo (fun j => v j * P j i) (m + 1) + v (m + 1) * P (m + 1) i := rfl
    have hvm : v (m + 1) = sumTo (fun j => v j * (P j (m + 1) / sumTo (P (m + 1)) (m + 1))) (m + 1) := by
      rw [hi]
      exact sumTo_congr fun j hj => by rw [lo j hj]
    rw [hs]
    generalize hG : sumTo (P (m + 1)) (m + 1) = G at *
    rcases Nat.lt_or_ge i (m + 1) with l | l
    · have e1 := st i l
      rw [sumTo_congr (g := fun j => v j * P j i + P (m + 1) i * (v j * (P j (m + 1) / G))) (fun j hj => by
        show vec (m + 1) (elim P (m + 1)) j * elim P (m + 1) j i = _
        rw [← lo j hj]
        unfold elim
        rw [hG]
        grind), sumTo_add, sumTo_mul, ← hvm, ← lo i l] at e1
      grind
    · have : i = m + 1 := by omega
      subst this
      have e1 : sumTo (fun j => v j * P j (m + 1)) (m + 1) = G * v (m + 1) := by
        rw [hvm, ← sumTo_mul]
        refine sumTo_congr fun j hj => ?_
        have : P j (m + 1) / G * G = P j (m + 1) := Rat.div_mul_cancel (by grind)
        grind
      have e2 : G + P (m + 1) (m + 1) = 1 := by
        rw [← hG]
        exact h.row (m + 1) (by omega)
      rw [e1]
      grind
/-! sizes: common denominators -/
def sumI (f : Nat → Int) : Nat → Int
  | 0 => 0
  | n + 1 => sumI f n + f n
theorem sumI_cast (f : Nat → Int) (c : Rat) : ∀ n : Nat, sumTo (fun j => (f j : Rat) / c) n = (sumI f n : Rat) / c
  | 0 => by
    simp only [sumTo, sumI, Rat.div_def]
    have : ((0 : Int) : Rat) = 0 := rfl
    rw [this]
    grind
  | n + 1 => by
    simp only [sumTo, sumI]
    rw [sumI_cast f c n, Rat.intCast_add, Rat.div_def, Rat.div_def, Rat.div_def]
    grind
theorem sumI_abs {f : Nat → Int} {B : Nat} : ∀ {n : Nat}, (∀ i, i < n → (f i).natAbs < B) → (sumI f n).natAbs ≤ n * B
  | 0, _ => by simp [sumI]
  | n + 1, h => by
    have h1 := sumI_abs (f := f) (n := n) fun i hi => h i (by omega)
    have h2 := h n (by omega)
    simp only [sumI]
    rw [Nat.add_mul]
    omega
theorem i_ne {a : Int} (h : 0 < a) : (a : Rat) ≠ 0 := by
  have : a ≠ 0 := by omega
  exact_mod_cast this
theorem i_pos {a : Int} (h : 0 < a) : (0 : Rat) < (a : Rat) := by exact_mod_cast h
theorem pos_i {a : Int} {c : Rat} (h : 0 < (a : Rat) / c) (hc : 0 < c) : 0 < a := by
  have h1 := Rat.mul_pos h hc
  rw [Rat.div_mul_cancel (by grind)] at h1
  exact_mod_cast h1
def SB (e : Nat) (q : Rat) : Prop := ∃ N D : Int, 0 < D ∧ N.natAbs < 2 ^ e ∧ D.natAbs < 2 ^ e ∧ q = (N : Rat) / (D : Rat)
theorem mul_lt2 {a b : Int} {n m : Nat} (h : a.natAbs < 2 ^ n) (i : b.natAbs < 2 ^ m) : (a * b).natAbs < 2 ^ (n + m) := by
  rw [Int.natAbs_mul, Nat.pow_add]
  exact Nat.mul_lt_mul'' h i
theorem up2 {a : Int} {n m : Nat} (h : a.natAbs < 2 ^ n) (l : n ≤ m) : a.natAbs < 2 ^ m := Nat.lt_of_lt_of_le h (Nat.pow_le_pow_right (by omega) l)
theorem SB.up {e f : Nat} {q : Rat} (h : SB e q) (l : e ≤ f) : SB f q := by
  obtain ⟨N, D, h1, h2, h3, h4⟩ := h
  exact ⟨N, D, h1, up2 h2 l, up2 h3 l, h4⟩
/-- a matrix over integers: the row i over D i * Γ -/
structure CB (b c m : Nat) (D : Nat → Int) (A : Mat) (Γ : Int) (N : Nat → Nat → Int) : Prop where
  pos : 0 < Γ
  sm : Γ.natAbs < 2 ^ c
  n : ∀ i, i < m → ∀ j, j < m → (N i j).natAbs < 2 ^ b
  eq : ∀ i, i < m → ∀ j, j < m → A i j = (N i j : Rat) / ((D i : Rat) * (Γ : Rat))
def DB (m : Nat) (D : Nat → Int) : Prop := ∀ i, i < m → 0 < D i ∧ (D i).natAbs < 2 ^ 23
theorem two3 {k : Nat} (h : k ≤ 7) (b : Nat) : k * 2 ^ b < 2 ^ (b + 3) := by
  have : 2 ^ (b + 3) = 2 ^ b * 8 := by rw [Nat.pow_add]
  have p : 0 < 2 ^ b := Nat.two_pow_pos b
  have := Nat.mul_le_mul_right (2 ^ b) h
  omega
theorem CB.goes {b c m : Nat} {D : Nat → Int} {A : Mat} {Γ : Int} {N : Nat → Nat → Int} (h : CB b c (m + 1) D A Γ N) (hD : DB (m + 1) D) (hA : Irr (m + 1) A) (hm : 1 ≤ m) (m6 : m ≤ 6) : 0 < sumI (N m) m ∧ (sumI (N m) m).natAbs < 2 ^ (b + 3) ∧ sumTo (A m) m = (sumI (N m) m : Rat) / ((D m : Rat) * (Γ : Rat)) := by
  have e : sumTo (A m) m = (sumI (N m) m : Rat) / ((D m : Rat) * (Γ : Rat)) := by
    rw [← sumI_cast]
    exact sumTo_congr fun j hj => h.eq m (by omega) j (by omega)
  have hp := Rat.mul_pos (i_pos (hD m (by omega)).1) (i_pos h.pos)
  have g := hA.goes hm
  rw [e] at g
  refine ⟨pos_i g hp, ?_, e⟩
  have := sumI_abs (f := N m) (n := m) (B := 2 ^ b) fun i hi => h.n m (by omega) i (by omega)
  exact Nat.lt_of_le_of_lt this (two3 (by omega) b)
theorem CB.mult {b c m : Nat} {D : Nat → Int} {A : Mat} {Γ : Int} {N : Nat → Nat → Int} (h : CB b c (m + 1) D A Γ N) (hD : DB (m + 1) D) (hA : Irr (m + 1) A) (hm : 1 ≤ m) (m6 : m ≤ 6) {j : Nat} (hj : j < m) : A j m / sumTo (A m) m = (N j m : Rat) * (D m : Rat) / ((D j : Rat) * (sumI (N m) m : Rat)) := by
  obtain ⟨g1, _, g3⟩ := h.goes hD hA hm m6
  rw [g3, h.eq j (by omega) m (by omega)]
  have a1 := i_ne (hD j (by omega)).1
  have a2 := i_ne (hD m (by omega)).1
  have a3 := i_ne h.pos
  have a4 := i_ne g1
  generalize (sumI (N m) m : Rat) = G at *
  generalize (N j m : Rat) = x at *
  generalize (D j : Rat) = y at *
  generalize (D m : Rat) = z at *
  generalize (Γ : Rat) = w at *
  grind
theorem CB.elim {b c m : Nat} {D : Nat → Int} {A : Mat} {Γ : Int} {N : Nat → Nat → Int} (h : CB b c (m + 1) D A Γ N) (hD : DB (m + 1) D) (hA : Irr (m + 1) A) (hm : 1 ≤ m) (m6 : m ≤ 6) :
    CB (2 * b + 4) (c + (b + 3)) m D (Lw.elim A m) (Γ * sumI (N m) m) fun j i => N j i * sumI (N m) m + N j m * N m i := by
  obtain ⟨g1, g2, g3⟩ := h.goes hD hA hm m6
  refine ⟨Int.mul_pos h.pos g1, mul_lt2 h.sm g2, fun i hi j hj => ?_, fun j hj i hi => ?_⟩
  · have h1 := mul_lt2 (h.n i (by omega) j (by omega)) g2
    have h2 := mul_lt2 (h.n i (by omega) m (by omega)) (h.n m (by omega) j (by omega))
    have e1 : 2 ^ (b + (b + 3)) = 2 ^ (b + b) * 8 := by rw [← Nat.add_assoc, Nat.pow_add]
    have e2 : 2 ^ (2 * b + 4) = 2 ^ (b + b) * 16 := by rw [show 2 * b + 4 = b + b + 4 by omega, Nat.pow_add]
    have := Int.natAbs_add_le (N i j * sumI (N m) m) (N i m * N m j)
    omega
  · unfold Lw.elim
    rw [h.mult hD hA hm m6 hj, h.eq j (by omega) i (by omega), h.eq m (by omega) i (by omega)]
    have a1 := i_ne (hD j (by omega)).1
    have a2 := i_ne (hD m (by omega)).1
    have a3 := i_ne h.pos
    have a4 := i_ne g1
    rw [Rat.intCast_mul, Rat.intCast_add, Rat.intCast_mul, Rat.intCast_mul]
    generalize (sumI (N m) m : Rat) = G at *
    generalize (N j m : Rat) = x at *
    generalize (N j i : Rat) = x2 at *
    generalize (N m i : Rat) = x3 at *
    generalize (D j : Rat) = y at *
    generalize (D m : Rat) = z at *
    generalize (Γ : Rat) = w at *
    grind
theorem CB.sb {b c m : Nat} {D : Nat → Int} {A : Mat} {Γ : Int} {N : Nat → Nat → Int} (h : CB b c m D A Γ N) (hD : DB m D) (l : c + 23 ≤ b + 3) {i j : Nat} (hi : i < m) (hj : j < m) : SB (b + 3) (A i j) := by
  obtain ⟨d1, d2⟩ := hD i hi
  refine ⟨N i j, D i * Γ, Int.mul_pos d1 h.pos, up2 (h.n i hi j hj) (by omega), up2 (mul_lt2 d2 h.sm) (by omega), ?_⟩
  rw [h.eq i hi j hj, Rat.intCast_mul]
theorem CB.sbm {b c m : Nat} {D : Nat → Int} {A : Mat} {Γ : Int} {N : Nat → Nat → Int} (h : CB b c (m + 1) D A Γ N) (hD : DB (m + 1) D) (hA : Irr (m + 1) A) (hm : 1 ≤ m) (m6 : m ≤ 6) {j : Nat} (hj : j < m) : SB (b + 26) (A j m / sumTo (A m) m) := by
  obtain ⟨g1, g2, g3⟩ := h.goes hD hA hm m6
  obtain ⟨d1, d2⟩ := hD j (by omega)
  obtain ⟨d3, d4⟩ := hD m (by omega)
  refine ⟨N j m * D m, D j * sumI (N m) m, Int.mul_pos d1 g1, up2 (mul_lt2 (h.n j (by omega) m (by omega)) d4) (by omega), up2 (mul_lt2 d2 g2) (by omega), ?_⟩
  rw [h.mult hD hA hm m6 hj, Rat.intCast_mul, Rat.intCast_mul]
theorem CB.sbg {b c m : Nat} {D : Nat → Int} {A : Mat} {Γ : Int} {N : Nat → Nat → Int} (h : CB b c (m + 1) D A Γ N) (hD : DB (m + 1) D) (hA : Irr (m + 1) A) (l : c + 23 ≤ b + 3) (hm : 1 ≤ m) (m6 : m ≤ 6) : SB (b + 3) (sumTo (A m) m) := by
  obtain ⟨g1, g2, g3⟩ := h.goes hD hA hm m6
  obtain ⟨d1, d2⟩ := hD m (by omega)
  refine ⟨sumI (N m) m, D m * Γ, Int.mul_pos d1 h.pos, g2, up2 (mul_lt2 d2 h.sm) (by omega), ?_⟩
  rw [g3, Rat.intCast_mul]
/-! the stages -/
def PM : Nat → Mat → Nat → Mat
  | 0, P, _ => P
  | n + 1, P, m => if m = n + 1 then P else PM n (elim P n) m
theorem PM_self (n : Nat) (P : Mat) : PM n P n = P := by
  cases n with
  | zero => rfl
  | succ n => simp only [PM, if_pos]
theorem PM_step : ∀ (n : Nat) (P : Mat) (m : Nat), m < n → PM n P m = elim (PM n P (m + 1)) m
  | 0, _, _, h => by omega
  | n + 1, P, m, h => by
    rcases Nat.lt_or_ge m n with l | l
    · have e1 : PM (n + 1) P m = PM n (elim P n) m := by simp only [PM, if_neg (show ¬ m = n + 1 by omega)]
      have e2 : PM (n + 1) P (m + 1) = PM n (elim P n) (m + 1) := by simp only [PM, if_neg (show ¬ m + 1 = n + 1 by omega)]
      rw [e1, e2]
      exact PM_step n _ m l
    · have e : m = n := by omega
      subst e
      have e1 : PM (m + 1) P m = PM m (elim P m) m := by simp only [PM, if_neg (show ¬ m = m + 1 by omega)]
      rw [e1, PM_self, PM_self]
def fb : Nat → Nat
  | 0 => 23
  | k + 1 => 2 * fb k + 4
def gc : Nat → Nat
  | 0 => 1
  | k + 1 => gc k + (fb k + 3)
theorem gc_fb : ∀ k, gc k + 23 ≤ fb k + 3
  | 0 => by decide
  | k + 1 => by
    have := gc_fb k
    simp only [gc, fb]
    omega
theorem vec_lo (m : Nat) (P : Mat) {i : Nat} (h : i < m + 1) : vec (m + 2) P i = vec (m + 1) (elim P (m + 1)) i := by simp only [vec, if_pos h]
structure Stg (n : Nat) (D : Nat → Int) (P : Mat) (m : Nat) : Prop where
  irr : Irr m (PM n P m)
  cb : ∃ Γ N, CB (fb (n - m)) (gc (n - m)) m D (PM n P m) Γ N
  lo : ∀ i, i < m → vec n P i = vec m (PM n P m) i
theorem stage {n : Nat} {P : Mat} {D : Nat → Int} {N0 : Nat → Nat → Int} (h : Irr n P) (hD : DB n D) (hc : CB 23 1 n D P 1 N0) (n6 : n ≤ 6) : ∀ k, k < n → Stg n D P (n - k)
  | 0, _ => by
    rw [Nat.sub_zero]
    refine ⟨by rw [PM_self]; exact h, ⟨1, N0, ?_⟩, fun i _ => by rw [PM_self]⟩
    rw [Nat.sub_self, PM_self]
    exact hc
  | k + 1, hk => by
    obtain ⟨i1, ⟨Γ, N, c1⟩, l1⟩ := stage h hD hc n6 k (by omega)
    obtain ⟨m, hm⟩ : ∃ m, n - (k + 1) = m + 1 := ⟨n - (k + 1) - 1, by omega⟩
    have e1 : n - k = m + 2 := by omega
    rw [e1] at i1 c1 l1
    rw [hm]
    have e2 : PM n P (m + 1) = elim (PM n P (m + 2)) (m + 1) := PM_step n P (m + 1) (by omega)
    have hD2 : DB (m + 2) D := fun i hi => hD i (by omega)
    have c2 := c1.elim hD2 i1 (by omega) (by omega)
    rw [← e2, show 2 * fb (n - (m + 2)) + 4 = fb (n - (m + 1)) by rw [show n - (m + 1) = (n - (m + 2)) + 1 by omega]; rfl, show gc (n - (m + 2)) + (fb (n - (m + 2)) + 3) = gc (n - (m + 1)) by rw [show n - (m + 1) = (n - (m + 2)) + 1 by omega]; rfl] at c2
    refine ⟨by rw [e2]; exact i1.elim (by omega), ⟨_, _, c2⟩, fun i hi => ?_⟩
    · rw [l1 i (by omega), e2, vec_lo m _ hi]
/-- what leads to i from j, over what goes on from i -/
def mu (n : Nat) (P : Mat) (j i : Nat) : Rat := PM n P (i + 1) j i / sumTo (PM n P (i + 1) i) i
theorem stage' {n : Nat} {P : Mat} {D : Nat → Int} {N0 : Nat → Nat → Int} (h : Irr n P) (hD : DB n D) (hc : CB 23 1 n D P 1 N0) (n6 : n ≤ 6) {m : Nat} (m1 : 1 ≤ m) (m2 : m ≤ n) : Stg n D P m := by
  have := stage h hD hc n6 (n - m) (by omega)
  rwa [show n - (n - m) = m by omega] at this
theorem vec_mu {n : Nat} {P : Mat} {D : Nat → Int} {N0 : Nat → Nat → Int} (h : Irr n P) (hD : DB n D) (hc : CB 23 1 n D P 1 N0) (n6 : n ≤ 6) {i : Nat} (i1 : 1 ≤ i) (i2 : i < n) : vec n P i = sumTo (fun j => vec n P j * mu n P j i) i := by
  obtain ⟨m, rfl⟩ : ∃ m, i = m + 1 := ⟨i - 1, by omega⟩
  have s1 := stage' h hD hc n6 (m := m + 2) (by omega) (by omega)
  have s2 := stage' h hD hc n6 (m := m + 1) (by omega) (by omega)
  rw [s1.lo (m + 1) (by omega)]
  simp only [vec, if_neg (Nat.lt_irrefl _)]
  refine sumTo_congr fun j hj => ?_
  rw [s2.lo j hj, PM_step n P (m + 1) (by omega)]
  rfl
theorem vec_zero (n : Nat) (P : Mat) : ∀ n P, vec n P 0 = 1
  | 0, _ => rfl
  | 1, _ => rfl
  | m + 2, P => by
    simp only [vec, if_pos (Nat.succ_pos m)]
    exact vec_zero n P (m + 1) _
def ya (n : Nat) : Nat → Nat
  | 0 => 23
  | i + 1 => ya n i + (fb (n - 2 - i) + 3)
def YB (a k : Nat) (D : Nat → Int) (v : Nat → Rat) : Prop := ∃ (B : Int) (A : Nat → Int), 0 < B ∧ B.natAbs < 2 ^ a ∧ ∀ j, j < k → (A j).natAbs < 2 ^ a ∧ v j = (A j : Rat) * (D j : Rat) / (B : Rat)
theorem yb_step {b a c m : Nat} {D : Nat → Int} {A : Mat} {Γ : Int} {N : Nat → Nat → Int} {v : Nat → Rat} (h : CB b c (m + 1) D A Γ N) (hD : DB (m + 1) D) (hA : Irr (m + 1) A) (hm : 1 ≤ m) (m6 : m ≤ 6) (hy : YB a m D v)
    (hv : v m = sumTo (fun j => v j * (A j m / sumTo (A m) m)) m) : YB (a + (b + 3)) (m + 1) D v := by
  obtain ⟨B, Y, b1, b2, b3⟩ := hy
  obtain ⟨g1, g2, g3⟩ := h.goes hD hA hm m6
  refine ⟨B * sumI (N m) m, fun j => if j < m then Y j * sumI (N m) m else sumI (fun j => Y j * N j m) m, Int.mul_pos b1 g1, mul_lt2 b2 g2, fun j hj => ?_⟩
  have a3 := i_ne b1
  have a4 := i_ne g1
  rcases Nat.lt_or_ge j m with l | l
  · obtain ⟨y1, y2⟩ := b3 j l
    simp only [if_pos l]
    refine ⟨mul_lt2 y1 g2, ?_⟩
    rw [y2, Rat.intCast_mul, Rat.intCast_mul]
    generalize (sumI (N m) m : Rat) = G at *
    generalize (Y j : Rat) = x at *
    generalize (D j : Rat) = z at *
    generalize (B : Rat) = w at *
    grind
  · have : j = m := by omega
    subst this
    simp only [if_neg (Nat.lt_irrefl _)]
    constructor
    · have := sumI_abs (f := fun i => Y i * N i j) (n := j) (B := 2 ^ (a + b)) fun i hi => mul_lt2 (b3 i hi).1 (h.n i (by omega) j (by omega))
      have l2 := two3 (k := j) (by omega) (a + b)
      rw [← Nat.add_assoc]
      omega
    · rw [hv]
      have e : sumTo (fun i => v i * (A i j / sumTo (A j) j)) j = sumTo (fun i => (D j : Rat) * (((Y i * N i j : Int) : Rat) / ((B : Rat) * (sumI (N j) j : Rat)))) j := by
        refine sumTo_congr fun i hi => ?_
        rw [(b3 i hi).2, h.mult hD hA hm m6 hi, Rat.intCast_mul]
        have a1 := i_ne (hD i (by omega)).1
        generalize (sumI (N j) j : Rat) = G at *
        generalize (Y i : Rat) = x at *
        generalize (N i j : Rat) = x2 at *
        generalize (D i : Rat) = y at *
        generalize (D j : Rat) = z at *
        generalize (B : Rat) = w at *
        grind
      rw [e, sumTo_mul, sumI_cast, Rat.intCast_mul]
      generalize (sumI (N j) j : Rat) = G at *
      generalize (sumI (fun i => Y i * N i j) j : Rat) = x at *
      generalize (D j : Rat) = z at *
      generalize (B : Rat) = w at *
      grind
theorem vec_yb {n : Nat} {P : Mat} {D : Nat → Int} {N0 : Nat → Nat → Int} (h : Irr n P) (hD : DB n D) (hc : CB 23 1 n D P 1 N0) (n6 : n ≤ 6) : ∀ i, i < n → YB (ya n i) (i + 1) D (vec n P)
  | 0, hi => by
    obtain ⟨d1, d2⟩ := hD 0 hi
    refine ⟨D 0, fun _ => 1, d1, d2, fun j hj => ?_⟩
    have : j = 0 := by omega
    subst this
    refine ⟨Nat.one_lt_two_pow (by simp only [ya]; omega), ?_⟩
    rw [vec_zero n P n P]
    have := i_ne d1
    generalize (D 0 : Rat) = x at *
    have : ((1 : Int) : Rat) = 1 := rfl
    grind
  | i + 1, hi => by
    have ih := vec_yb h hD hc n6 i (by omega)
    have s1 := stage' h hD hc n6 (m := i + 2) (by omega) (by omega)
    obtain ⟨Γ, N, c1⟩ := s1.cb
    have := yb_step c1 (fun j hj => hD j (by omega)) s1.irr (by omega) (by omega) ih (by rw [vec_mu h hD hc n6 (by omega) hi]; rfl)
    rw [show n - (i + 2) = n - 2 - i by omega] at this
    exact this
theorem ya5 : ∀ n, n < 6 → ∀ i, i < n → ya n i ≤ 430 := by decide
theorem fb5 : ∀ k, k < 5 → fb k ≤ 430 := by decide
/-! shares, flows, the walk backwards -/
theorem SB.int {a : Int} {e : Nat} (h : a.natAbs < 2 ^ e) (l : 1 ≤ e) : SB e (a : Rat) := by
  refine ⟨a, 1, by decide, h, Nat.one_lt_two_pow (by omega), ?_⟩
  have : ((1 : Int) : Rat) = 1 := rfl
  rw [this, Rat.div_def]
  grind
theorem fB_of {p : Int × Int} {e : Nat} (hp : red p) (h : SB e (rq p)) : fB e p := by
  obtain ⟨N, D, h1, h2, h3, h4⟩ := h
  have e1 : p = low N D := rq_inj hp (low_red h1) (by rw [h4, low_q h1, Rat.divInt_eq_div])
  rw [e1]
  exact low_size h1 h2 h3 (Nat.le_refl _)
def timesF (x y : Int × Int) : Int × Int := low (x.1 * y.1) (x.2 * y.2)
theorem timesF_red {x y : Int × Int} (hx : 0 < x.2) (hy : 0 < y.2) : red (timesF x y) := low_red (Int.mul_pos hx hy)
theorem timesF_q {x y : Int × Int} (hx : 0 < x.2) (hy : 0 < y.2) : rq (timesF x y) = rq x * rq y := by
  unfold timesF
  rw [low_q (Int.mul_pos hx hy)]
  unfold rq
  rw [Rat.divInt_mul_divInt]
structure Facts (n : Nat) (P : Mat) (D : Nat → Int) (N : Nat → Nat → Int) : Prop where
  irr : Irr n P
  db : DB n D
  cb : CB 23 1 n D P 1 N
  lo : 1 ≤ n
  hi : n ≤ 5
theorem Facts.yb {n : Nat} {P : Mat} {D : Nat → Int} {N : Nat → Nat → Int} (h : Facts n P D N) : YB 430 n D (vec n P) := by
  have h1 := h.lo
  have h2 := h.hi
  obtain ⟨B, A, b1, b2, b3⟩ := vec_yb h.irr h.db h.cb (by omega) (n - 1) (by omega)
  have l := ya5 n (by omega) (n - 1) (by omega)
  rw [show n - 1 + 1 = n by omega] at b3
  exact ⟨B, A, b1, up2 b2 l, fun j hj => ⟨up2 (b3 j hj).1 l, (b3 j hj).2⟩⟩
theorem Facts.vpos {n : Nat} {P : Mat} {D : Nat → Int} {N : Nat → Nat → Int} (h : Facts n P D N) : ∀ i, i < n → 0 < vec n P i := (vec_stat n P h.irr h.lo).1
theorem Facts.stat {n : Nat} {P : Mat} {D : Nat → Int} {N : Nat → Nat → Int} (h : Facts n P D N) : ∀ i, i < n → sumTo (fun j => vec n P j * P j i) n = vec n P i := (vec_stat n P h.irr h.lo).2
theorem Facts.spos {n : Nat} {P : Mat} {D : Nat → Int} {N : Nat → Nat → Int} (h : Facts n P D N) : 0 < sumTo (vec n P) n := by
  have := h.lo
  exact sumTo_pos (j := 0) (fun i hi => by have := h.vpos i hi; grind) (by omega) (h.vpos 0 (by omega))
/-- the shares -/
def sh (n : Nat) (P : Mat) (i : Nat) : Rat := vec n P i / sumTo (vec n P) n
theorem Facts.shpos {n : Nat} {P : Mat} {D : Nat → Int} {N : Nat → Nat → Int} (h : Facts n P D N) {i : Nat} (hi : i < n) : 0 < sh n P i := div_ps (h.vpos i hi) h.spos
theorem Facts.shstat {n : Nat} {P : Mat} {D : Nat → Int} {N : Nat → Nat → Int} (h : Facts n P D N) {i : Nat} (hi : i < n) : sumTo (fun j => sh n P j * P j i) n = sh n P i := by
  have e : sumTo (fun j => sh n P j * P j i) n = sumTo (fun j => (1 / sumTo (vec n P) n) * (vec n P j * P j i)) n := sumTo_congr fun j hj => by
    unfold sh
    rw [Rat.div_def, Rat.div_def]
    grind
  rw [e, sumTo_mul, h.stat i hi]
  unfold sh
  rw [Rat.div_def, Rat.div_def]
  grind
theorem Facts.vsb {n : Nat} {P : Mat} {D : Nat → Int} {N : Nat → Nat → Int} (h : Facts n P D N) {i : Nat} (hi : i < n) : SB 453 (vec n P i) := by
  obtain ⟨B, A, b1, b2, b3⟩ := h.yb
  obtain ⟨a1, a2⟩ := b3 i hi
  exact ⟨A i * D i, B, b1, mul_lt2 a1 (h.db i hi).2, up2 b2 (by omega), by rw [a2, Rat.intCast_mul]⟩
theorem Facts.sum_eq {n : Nat} {P : Mat} {D : Nat → Int} {N : Nat → Nat → Int} (h : Facts n P D N) : ∃ (B S : Int) (A : Nat → Int), 0 < B ∧ B.natAbs < 2 ^ 430 ∧ 0 < S ∧ S.natAbs < 2 ^ 456 ∧ sumTo (vec n P) n = (S : Rat) / (B : Rat) ∧ ∀ j, j < n → 0 < A j ∧ (A j).natAbs < 2 ^ 430 ∧ vec n P j = (A j : Rat) * (D j : Rat) / (B : Rat) := by
  obtain ⟨B, A, b1, b2, b3⟩ := h.yb
  have e : sumTo (vec n P) n = (sumI (fun j => A j * D j) n : Rat) / (B : Rat) := by
    rw [← sumI_cast]
    refine sumTo_congr fun j hj => ?_
    rw [(b3 j hj).2, Rat.intCast_mul]
  have g := h.spos
  rw [e] at g
  refine ⟨B, sumI (fun j => A j * D j) n, A, b1, b2, pos_i g (i_pos b1), ?_, e, fun j hj => ⟨?_, b3 j hj⟩⟩
  · have := sumI_abs (f := fun j => A j * D j) (n := n) (B := 2 ^ 453) fun i hi => mul_lt2 (b3 i hi).1 (h.db i hi).2
    have h2 := h.hi
    exact Nat.lt_of_le_of_lt this (two3 (by omega) 453)
  · have v := h.vpos j hj
    rw [(b3 j hj).2] at v
    have d := (h.db j hj).1
    have v2 : 0 < ((A j * D j : Int) : Rat) / (B : Rat) := by rw [Rat.intCast_mul]; exact v
    have v3 := pos_i v2 (i_pos b1)
    exact Int.pos_of_mul_pos_left v3 d
theorem Facts.shsb {n : Nat} {P : Mat} {D : Nat → Int} {N : Nat → Nat → Int} (h : Facts n P D N) {i : Nat} (hi : i < n) : SB 456 (sh n P i) := by
  obtain ⟨B, S, A, b1, b2, s1, s2, e, a⟩ := h.sum_eq
  obtain ⟨a1, a2, a3⟩ := a i hi
  refine ⟨A i * D i, S, s1, up2 (mul_lt2 a2 (h.db i hi).2) (by omega), s2, ?_⟩
  unfold sh
  rw [e, a3, Rat.intCast_mul]
  have x1 := i_ne b1
  have x2 := i_ne s1
  generalize (A i : Rat) = y1 at *
  generalize (D i : Rat) = y2 at *
  generalize (B : Rat) = y3 at *
  generalize (S : Rat) = y4 at *
  grind
theorem Facts.flsb {n : Nat} {P : Mat} {D : Nat → Int} {N : Nat → Nat → Int} (h : Facts n P D N) {i j : Nat} (hi : i < n) (hj : j < n) : SB 456 (sh n P i * P i j) := by
  obtain ⟨B, S, A, b1, b2, s1, s2, e, a⟩ := h.sum_eq
  obtain ⟨a1, a2, a3⟩ := a i hi
  refine ⟨A i * N i j, S, s1, up2 (mul_lt2 a2 (h.cb.n i hi j hj)) (by omega), s2, ?_⟩
  unfold sh
  rw [e, a3, h.cb.eq i hi j hj, Rat.intCast_mul]
  have x1 := i_ne b1
  have x2 := i_ne s1
  have x3 := i_ne (h.db i hi).1
  have x4 : ((1 : Int) : Rat) = 1 := rfl
  rw [x4]
  generalize (A i : Rat) = y1 at *
  generalize (D i : Rat) = y2 at *
  generalize (B : Rat) = y3 at *
  generalize (S : Rat) = y4 at *
  generalize (N i j : Rat) = y5 at *
  grind
/-- the walk backwards -/
def bk (n : Nat) (P : Mat) (i j : Nat) : Rat := sh n P j * P j i / sh n P i
theorem Facts.bksb {n : Nat} {P : Mat} {D : Nat → Int} {N : Nat → Nat → Int} (h : Facts n P D N) {i j : Nat} (hi : i < n) (hj : j < n) : SB 456 (bk n P i j) := by
  obtain ⟨B, S, A, b1, b2, s1, s2, e, a⟩ := h.sum_eq
  obtain ⟨a1, a2, a3⟩ := a i hi
  obtain ⟨c1, c2, c3⟩ := a j hj
  obtain ⟨d1, d2⟩ := h.db i hi
  refine ⟨A j * N j i, A i * D i, Int.mul_pos a1 d1, up2 (mul_lt2 c2 (h.cb.n j hj i hi)) (by omega), up2 (mul_lt2 a2 d2) (by omega), ?_⟩
  unfold bk sh
  rw [e, a3, c3, h.cb.eq j hj i hi, Rat.intCast_mul, Rat.intCast_mul]
  have x1 := i_ne b1
  have x2 := i_ne s1
  have x3 := i_ne (h.db j hj).1
  have x4 : ((1 : Int) : Rat) = 1 := rfl
  have x5 := i_ne a1
  have x6 := i_ne d1
  rw [x4]
  generalize (A i : Rat) = y1 at *
  generalize (D i : Rat) = y2 at *
  generalize (B : Rat) = y3 at *
  generalize (S : Rat) = y4 at *
  generalize (N j i : Rat) = y5 at *
  generalize (A j : Rat) = y6 at *
  generalize (D j : Rat) = y7 at *
  grind
theorem Facts.bkrow {n : Nat} {P : Mat} {D : Nat → Int} {N : Nat → Nat → Int} (h : Facts n P D N) {i : Nat} (hi : i < n) : sumTo (bk n P i) n = 1 := by
  have e : sumTo (bk n P i) n = sumTo (fun j => (1 / sh n P i) * (sh n P j * P j i)) n := sumTo_congr fun j hj => by
    unfold bk
    rw [Rat.div_def, Rat.div_def]
    grind
  rw [e, sumTo_mul, h.shstat hi]
  have := h.shpos hi
  grind
end Lw

/-! KA: leaving out unknowns, in Rat: one answer, sizes; the shares are the one answer. -/
namespace Lw
open PySem MI
theorem sumTo_sub (f g : Nat → Rat) (n : Nat) : sumTo (fun i => f i - g i) n = sumTo f n - sumTo g n := by
  have h := sumTo_add (fun i => f i - g i) g n
  have e : sumTo (fun i => f i - g i + g i) n = sumTo f n := sumTo_congr fun i _ => by grind
  grind
theorem sumTo_one {c : Rat} {i : Nat} : ∀ {n : Nat}, i < n → sumTo (fun j => if j = i then c else 0) n = c
  | 0, h => by omega
  | n + 1, h => by
    show sumTo (fun j => if j = i then c else 0) n + (if n = i then c else 0) = c
    rcases Nat.lt_or_ge i n with l | l
    · rw [sumTo_one l, if_neg (by omega)]
      grind
    · have : n = i := by omega
      subst this
      rw [if_pos rfl]
      have : sumTo (fun j => if j = n then c else 0) n = 0 := by
        have e : sumTo (fun j => if j = n then c else 0) n = sumTo (fun _ => 0) n := sumTo_congr fun j hj => if_neg (by omega)
        rw [e, sumTo_zero]
      grind
theorem sumTo_ext {f : Nat → Rat} {n : Nat} : ∀ {w : Nat}, n ≤ w → (∀ j, n ≤ j → f j = 0) → sumTo f w = sumTo f n
  | 0, h, _ => by
    have : n = 0 := by omega
    subst this
    rfl
  | w + 1, h, z => by
    rcases Nat.lt_or_ge n (w + 1) with l | l
    · show sumTo f w + f w = _
      rw [sumTo_ext (by omega) z, z w (by omega)]
      grind
    · have : n = w + 1 := by omega
      subst this
      rfl
def gj (p : Nat) (A : Mat) : Mat := fun i j => if i = p then A p j / A p p else A i j - A i p * (A p j / A p p)
def swp (p s : Nat) (A : Mat) : Mat := fun i j => if i = p then A s j else if i = s then A p j else A i j
theorem gj_back {n w p : Nat} {A : Mat} {y : Nat → Rat} (hp : p < n) (hz : A p p ≠ 0) (h : ∀ i, i < n → sumTo (fun j => gj p A i j * y j) w = 0) : ∀ i, i < n → sumTo (fun j => A i j * y j) w = 0 := by
  intro i hi
  have hP : sumTo (fun j => A p j / A p p * y j) w = 0 := by
    have := h p hp
    have e : sumTo (fun j => gj p A p j * y j) w = sumTo (fun j => A p j / A p p * y j) w := sumTo_congr fun j _ => by
      unfold gj
      rw [if_pos rfl]
    rw [e] at this
    exact this
  by_cases e : i = p
  · subst e
    have e1 : sumTo (fun j => A i j * y j) w = sumTo (fun j => A i i * (A i j / A i i * y j)) w := sumTo_congr fun j _ => by grind
    rw [e1, sumTo_mul, hP]
    grind
  · have h1 := h i hi
    have e1 : sumTo (fun j => gj p A i j * y j) w = sumTo (fun j => A i j * y j - A i p * (A p j / A p p * y j)) w := sumTo_congr fun j _ => by
      unfold gj
      rw [if_neg e]
      grind
    rw [e1, sumTo_sub, sumTo_mul, hP] at h1
    grind
theorem swp_back {n w p s : Nat} {A : Mat} {y : Nat → Rat} (hp : p < n) (hs : s < n) (h : ∀ i, i < n → sumTo (fun j => swp p s A i j * y j) w = 0) : ∀ i, i < n → sumTo (fun j => A i j * y j) w = 0 := by
  intro i hi
  have q : ∀ k, k < n → (∀ j, swp p s A k j = A i j) → sumTo (fun j => A i j * y j) w = 0 := fun k hk e => by
    rw [← h k hk]
    exact sumTo_congr fun j _ => by rw [e]
  by_cases e1 : i = s
  · subst e1
    exact q p hp fun j => if_pos rfl
  · by_cases e2 : i = p
    · subst e2
      refine q s hs fun j => ?_
      unfold swp
      rw [if_neg (Ne.symm e1), if_pos rfl]
    · refine q i hi fun j => ?_
      unfold swp
      rw [if_neg e2, if_neg e1]
/-- only 0 is brought to 0 -/
def NS (n : Nat) (A : Mat) : Prop := ∀ y : Nat → Rat, (∀ i, i < n → sumTo (fun j => A i j * y j) n = 0) → ∀ j, j < n → y j = 0
structure GJ (n w p : Nat) (A0 A : Mat) : Prop where
  unit : ∀ i, i < n → ∀ j, j < p → A i j = if i = j then 1 else 0
  back : ∀ y : Nat → Rat, (∀ i, i < n → sumTo (fun j => A i j * y j) w = 0) → ∀ i, i < n → sumTo (fun j => A0 i j * y j) w = 0
theorem GJ.start (n w : Nat) (A : Mat) : GJ n w 0 A A := ⟨fun _ _ j h => absurd h (Nat.not_lt_zero _), fun _ h => h⟩
theorem GJ.pivot {n w p : Nat} {A0 A : Mat} (h : GJ n w p A0 A) (ns : NS n A0) (hp : p < n) (hw : n ≤ w) : ∃ s, p ≤ s ∧ s < n ∧ A s p ≠ 0 := by
  refine Classical.byContradiction fun no => ?_
  have z : ∀ s, p ≤ s → s < n → A s p = 0 := fun s h1 h2 => Classical.byContradiction fun h3 => no ⟨s, h1, h2, h3⟩
  have y0 : ∀ j, n ≤ j → (if j < p then -A j p else if j = p then (1 : Rat) else 0) = 0 := fun j hj => by
    rw [if_neg (by omega), if_neg (by omega)]
  have k := h.back (fun j => if j < p then -A j p else if j = p then 1 else 0) fun i hi => by
    have e : sumTo (fun j => A i j * (if j < p then -A j p else if j = p then 1 else 0)) w = sumTo (fun j => (if j = i then (if i < p then -A i p else 0) else 0) + (if j = p then A i p else 0)) w := sumTo_congr fun j _ => by
      by_cases l : j < p
      · rw [if_pos l, h.unit i hi j l]
        by_cases e : i = j
        · subst e
          rw [if_pos rfl, if_pos rfl, if_pos l, if_neg (by omega)]
          grind
        · rw [if_neg e, if_neg (Ne.symm e), if_neg (by omega)]
          grind
      · rw [if_neg l]
        by_cases e : j = p
        · subst e
          rw [if_pos rfl, if_pos rfl]
          by_cases e2 : j = i
          · subst e2
            rw [if_pos rfl, if_neg (by omega)]
            grind
          · rw [if_neg e2]
            grind
        · rw [if_neg e, if_neg e]
          by_cases e2 : j = i
          · subst e2
            rw [if_pos rfl, if_neg l]
            grind
          · rw [if_neg e2]
            grind
    rw [e, sumTo_add, sumTo_one (by omega), sumTo_one (by omega)]
    by_cases l : i < p
    · rw [if_pos l]
      grind
    · rw [if_neg l, z i (by omega) hi]
      grind
  have k2 := ns _ (fun i hi => by
    have := k i hi
    rw [sumTo_ext hw fun j hj => by rw [y0 j hj]; grind] at this
    exact this) p hp
  rw [if_neg (Nat.lt_irrefl _), if_pos rfl] at k2
  exact absurd k2 (by decide)
theorem GJ.step {n w p s : Nat} {A0 A : Mat} (h : GJ n w p A0 A) (hp : p < n) (h1 : p ≤ s) (h2 : s < n) (hz : A s p ≠ 0) : GJ n w (p + 1) A0 (gj p (swp p s A)) := by
  have hpp : swp p s A p p = A s p := if_pos rfl
  have u : ∀ i, i < n → ∀ j, j < p → swp p s A i j = if i = j then 1 else 0 := fun i hi j hj => by
    unfold swp
    by_cases e1 : i = p
    · rw [if_pos e1, h.unit s h2 j hj, if_neg (by omega), if_neg (by omega)]
    · rw [if_neg e1]
      by_cases e2 : i = s
      · rw [if_pos e2, h.unit p hp j hj, if_neg (by omega), if_neg (by omega)]
      · rw [if_neg e2]
        exact h.unit i hi j hj
  refine ⟨fun i hi j hj => ?_, fun y hy => h.back y (swp_back hp h2 (gj_back hp (by rw [hpp]; exact hz) hy))⟩
  unfold gj
  rcases Nat.lt_or_ge j p with l | l
  · rw [u i hi j l, u p hp j l, if_neg (show ¬ p = j by omega)]
    by_cases e : i = p
    · rw [if_pos e, if_neg (by omega)]
      grind
    · rw [if_neg e]
      grind
  · have : j = p := by omega
    subst this
    by_cases e : i = j
    · rw [if_pos e, if_pos e, hpp]
      grind
    · rw [if_neg e, if_neg e, hpp]
      grind
theorem GJ.sol {n w c : Nat} {A0 A : Mat} (h : GJ n w n A0 A) (hc : n ≤ c) (hw : c < w) : ∀ i, i < n → sumTo (fun j => A0 i j * A j c) n = A0 i c := by
  intro i hi
  have k := h.back (fun j => (if j < n then A j c else 0) + (if j = c then -1 else 0)) (fun i hi => by
    have e : sumTo (fun j => A i j * ((if j < n then A j c else 0) + (if j = c then -1 else 0))) w = sumTo (fun j => (if j = i then A i c else 0) + (if j = c then -A i c else 0)) w := sumTo_congr fun j _ => by
      rcases Nat.lt_or_ge j n with l | l
      · rw [if_pos l, if_neg (show ¬ j = c by omega), if_neg (show ¬ j = c by omega), h.unit i hi j l]
        by_cases e : i = j
        · subst e
          rw [if_pos rfl, if_pos rfl]
          grind
        · rw [if_neg e, if_neg (Ne.symm e)]
          grind
      · rw [if_neg (by omega), if_neg (show ¬ j = i by omega)]
        by_cases e : j = c
        · subst e
          rw [if_pos rfl, if_pos rfl]
          grind
        · rw [if_neg e, if_neg e]
          grind
    rw [e, sumTo_add, sumTo_one (by omega), sumTo_one hw]
    grind) i hi
  have e : sumTo (fun j => A0 i j * ((if j < n then A j c else 0) + (if j = c then -1 else 0))) w = sumTo (fun j => A0 i j * (if j < n then A j c else 0) + (if j = c then -A0 i c else 0)) w := sumTo_congr fun j _ => by
    by_cases e : j = c
    · subst e
      rw [if_pos rfl, if_pos rfl]
      grind
    · rw [if_neg e, if_neg e]
      grind
  rw [e, sumTo_add, sumTo_one hw, sumTo_ext (n := n) (by omega) fun j hj => by rw [if_neg (by omega)]; grind] at k
  have e2 : sumTo (fun j => A0 i j * (if j < n then A j c else 0)) n = sumTo (fun j => A0 i j * A j c) n := sumTo_congr fun j hj => by rw [if_pos hj]
  rw [e2] at k
  grind
/-! sizes -/
def RowB (b w : Nat) (f : Nat → Rat) : Prop := ∃ E : Int, E ≠ 0 ∧ E.natAbs < 2 ^ b ∧ ∀ j, j < w → ∃ a : Int, a.natAbs < 2 ^ b ∧ f j = (a : Rat) / (E : Rat)
def RB (b n w : Nat) (A : Mat) : Prop := ∀ i, i < n → RowB b w (A i)
theorem rat_ne {a : Int} (h : a ≠ 0) : (a : Rat) ≠ 0 := fun e => h (by exact_mod_cast e)
theorem RowB.sb {b w j : Nat} {f : Nat → Rat} (h : RowB b w f) (hj : j < w) : SB b (f j) := by
  obtain ⟨E, e1, e2, e3⟩ := h
  obtain ⟨a, a1, a2⟩ := e3 j hj
  rcases Int.lt_or_gt_of_ne e1 with l | l
  · refine ⟨-a, -E, by omega, by rw [Int.natAbs_neg]; exact a1, by rw [Int.natAbs_neg]; exact e2, ?_⟩
    rw [a2]
    have := rat_ne e1
    rw [Rat.intCast_neg, Rat.intCast_neg]
    grind
  · exact ⟨a, E, l, a1, e2, a2⟩
theorem RowB.up {b c w : Nat} {f : Nat → Rat} (h : RowB b w f) (l : b ≤ c) : RowB c w f := by
  obtain ⟨E, e1, e2, e3⟩ := h
  exact ⟨E, e1, up2 e2 l, fun j hj => by
    obtain ⟨a, a1, a2⟩ := e3 j hj
    exact ⟨a, up2 a1 l, a2⟩⟩
theorem rb_swp {b n w p s : Nat} {A : Mat} (h : RB b n w A) (hp : p < n) (hs : s < n) : RB b n w (swp p s A) := fun i hi => by
  have e : swp p s A i = if i = p then A s else if i = s then A p else A i := by
    funext j
    unfold swp
    split
    · rfl
    · split <;> rfl
  rw [e]
  split
  · exact h s hs
  · split
    · exact h p hp
    · exact h i hi
theorem rb_lead {b n w p : Nat} {A : Mat} (h : RB b n w A) (hp : p < n) (hw : n ≤ w) (hz : A p p ≠ 0) : RowB b w (fun j => A p j / A p p) := by
  obtain ⟨E, e1, e2, e3⟩ := h p hp
  obtain ⟨a, a1, a2⟩ := e3 p (by omega)
  have r1 := rat_ne e1
  have a0 : a ≠ 0 := fun z => hz (by rw [a2, z]; show (0 : Rat) / _ = 0; grind)
  refine ⟨a, a0, a1, fun j hj => ?_⟩
  obtain ⟨c, c1, c2⟩ := e3 j hj
  refine ⟨c, c1, ?_⟩
  show A p j / A p p = _
  rw [c2, a2]
  have r2 := rat_ne a0
  grind
theorem rb_gj {b n w p : Nat} {A : Mat} (h : RB b n w A) (hp : p < n) (hw : n ≤ w) (hz : A p p ≠ 0) : RB (2 * b + 1) n w (gj p A) := fun i hi => by
  by_cases e : i = p
  · have e1 : gj p A i = fun j => A p j / A p p := by
      funext j
      exact if_pos e
    rw [e1]
    exact (rb_lead h hp hw hz).up (by omega)
  · have e1 : gj p A i = fun j => A i j - A i p * (A p j / A p p) := by
      funext j
      exact if_neg e
    rw [e1]
    obtain ⟨L, l1, l2, l3⟩ := rb_lead h hp hw hz
    obtain ⟨E, e1, e2, e3⟩ := h i hi
    obtain ⟨a, a1, a2⟩ := e3 p (by omega)
    refine ⟨E * L, Int.mul_ne_zero e1 l1, up2 (mul_lt2 e2 l2) (by omega), fun j hj => ?_⟩
    obtain ⟨c, c1, c2⟩ := e3 j hj
    obtain ⟨d, d1, d2⟩ := l3 j hj
    refine ⟨c * L - a * d, ?_, ?_⟩
    · have h1 := mul_lt2 c1 l2
      have h2 := mul_lt2 a1 d1
      have e : 2 ^ (2 * b + 1) = 2 ^ (b + b) + 2 ^ (b + b) := by rw [Nat.pow_succ, show 2 * b = b + b by omega]; omega
      omega
    · have d2 : A p j / A p p = _ := d2
      show A i j - A i p * (A p j / A p p) = _
      rw [d2, c2, a2, Rat.intCast_sub, Rat.intCast_mul, Rat.intCast_mul, Rat.intCast_mul]
      have r1 := rat_ne e1
      have r2 := rat_ne l1
      grind
/-- functions with own denominators -/
theorem rowE_of {c : Nat} {f : Nat → Rat} : ∀ m : Nat, (∀ j, j < m → ∃ N D : Int, D ≠ 0 ∧ N.natAbs < 2 ^ c ∧ D.natAbs < 2 ^ c ∧ f j = (N : Rat) / (D : Rat)) → ∃ E : Int, E ≠ 0 ∧ E.natAbs ≤ 2 ^ (c * m) ∧ ∀ j, j < m → ∃ a : Int, a.natAbs ≤ 2 ^ (c * m) ∧ f j = (a : Rat) / (E : Rat)
  | 0, _ => ⟨1, by decide, by rw [Nat.mul_zero]; decide, fun j h => absurd h (Nat.not_lt_zero _)⟩
  | m + 1, h => by
    obtain ⟨E, e1, e2, e3⟩ := rowE_of m fun j hj => h j (by omega)
    obtain ⟨N, D, d1, n2, d2, d3⟩ := h m (by omega)
    have r1 := rat_ne e1
    have r2 := rat_ne d1
    have pw : 2 ^ (c * (m + 1)) = 2 ^ (c * m) * 2 ^ c := by rw [Nat.mul_succ, Nat.pow_add]
    refine ⟨E * D, Int.mul_ne_zero e1 d1, ?_, fun j hj => ?_⟩
    · rw [Int.natAbs_mul, pw]
      exact Nat.mul_le_mul e2 (by omega)
    · rcases Nat.lt_or_ge j m with l | l
      · obtain ⟨a, a1, a2⟩ := e3 j l
        refine ⟨a * D, ?_, ?_⟩
        · rw [Int.natAbs_mul, pw]
          exact Nat.mul_le_mul a1 (by omega)
        · rw [a2, Rat.intCast_mul, Rat.intCast_mul]
          grind
      · have : j = m := by omega
        subst this
        refine ⟨N * E, ?_, ?_⟩
        · rw [Int.natAbs_mul, pw, Nat.mul_comm]
          exact Nat.mul_le_mul e2 (by omega)
        · rw [d3, Rat.intCast_mul, Rat.intCast_mul]
          grind
/-! the shares are the one answer -/
theorem least_of (f : Nat → Rat) : ∀ n : Nat, 1 ≤ n → ∃ k, k < n ∧ ∀ j, j < n → f k ≤ f j
  | 0, h => by omega
  | 1, _ => ⟨0, by omega, fun j hj => by
    have : j = 0 := by omega
    subst this
    exact Rat.le_refl⟩
  | n + 2, _ => by
    obtain ⟨k, hk, h⟩ := least_of f (n + 1) (by omega)
    rcases (by grind : f k ≤ f (n + 1) ∨ f (n + 1) ≤ f k) with l | l
    · exact ⟨k, by omega, fun j hj => by
        rcases Nat.lt_or_ge j (n + 1) with q | q
        · exact h j q
        · have : j = n + 1 := by omega
          subst this
          exact l⟩
    · exact ⟨n + 1, by omega, fun j hj => by
        rcases Nat.lt_or_ge j (n + 1) with q | q
        · have := h j q
          grind
        · have : j = n + 1 := by omega
          subst this
          exact Rat.le_refl⟩
theorem stat_zero {n : Nat} {P : Mat} (h : Irr n P) {π y : Nat → Rat} (hn : 1 ≤ n) (p0 : ∀ i, i < n → 0 < π i) (ps : ∀ i, i < n → sumTo (fun j => π j * P j i) n = π i) (ys : ∀ i, i < n → sumTo (fun j => y j * P j i) n = y i) (y0 : sumTo y n = 0) : ∀ i, i < n → y i = 0 := by
  obtain ⟨k, hk, hl⟩ := least_of (fun j => y j / π j) n hn
  have zs : ∀ i, i < n → sumTo (fun j => (y j - y k / π k * π j) * P j i) n = y i - y k / π k * π i := fun i hi => by
    have e : sumTo (fun j => (y j - y k / π k * π j) * P j i) n = sumTo (fun j => y j * P j i - y k / π k * (π j * P j i)) n := sumTo_congr fun j _ => by grind
    rw [e, sumTo_sub, sumTo_mul, ys i hi, ps i hi]
  have zn : ∀ j, j < n → 0 ≤ y j - y k / π k * π j := fun j hj => by
    have l := hl j hj
    have p := p0 j hj
    have e : y j = y j / π j * π j := by grind
    have := Rat.mul_le_mul_of_nonneg_right l (show 0 ≤ π j by grind)
    grind
  have back : ∀ a b, RQ n P a b → a < n → b < n → y b - y k / π k * π b = 0 → y a - y k / π k * π a = 0 := fun a b r ha => by
    induction r with
    | refl => exact fun _ h => h
    | @step c d h1 hd p ih =>
      intro _ hz
      have hc := h1.lt ha
      refine ih hc ?_
      have t := zs d hd
      rw [hz] at t
      have g := sumTo_ge (f := fun j => (y j - y k / π k * π j) * P j d) (n := n) (fun j hj => mul_nn (zn j hj) (h.nn j hj d hd)) hc
      rw [t] at g
      have q := zn c hc
      have g : (y c - y k / π k * π c) * P c d ≤ 0 := g
      refine Classical.byContradiction fun ne => ?_
      have pos : 0 < y c - y k / π k * π c := by grind
      have := Rat.mul_pos pos p
      grind
  have zk : y k - y k / π k * π k = 0 := by
    have := p0 k hk
    grind
  have za : ∀ a, a < n → y a = y k / π k * π a := fun a ha => by
    have := back a k (h.con a ha k hk) ha hk zk
    grind
  have hs : sumTo y n = y k / π k * sumTo π n := by
    rw [← sumTo_mul]
    exact sumTo_congr za
  have sp : 0 < sumTo π n := sumTo_pos (j := 0) (fun i hi => by have := p0 i hi; grind) (by omega) (p0 0 (by omega))
  have t0 : y k / π k = 0 := by
    rw [y0] at hs
    have := Rat.mul_eq_zero.mp hs.symm
    rcases this with h | h
    · exact h
    · grind
  intro i hi
  rw [za i hi, t0]
  grind
/-- the table of the shares' equations -/
def eqs (n : Nat) (P : Mat) : Mat := fun i j => if j < n then (if i = 0 then 1 else (if j = i then 1 else 0) - P j i) else (if i = 0 then 1 else 0)
theorem eqs_row {n : Nat} {P : Mat} {i : Nat} (hi : i < n) (h0 : i ≠ 0) (y : Nat → Rat) : sumTo (fun j => eqs n P i j * y j) n = y i - sumTo (fun j => y j * P j i) n := by
  have e : sumTo (fun j => eqs n P i j * y j) n = sumTo (fun j => (if j = i then y i else 0) - y j * P j i) n := sumTo_congr fun j hj => by
    unfold eqs
    rw [if_pos hj, if_neg h0]
    by_cases e : j = i
    · subst e
      rw [if_pos rfl, if_pos rfl]
      grind
    · rw [if_neg e, if_neg e]
      grind
  rw [e, sumTo_sub, sumTo_one hi]
theorem eqs_top {n : Nat} {P : Mat} (y : Nat → Rat) : sumTo (fun j => eqs n P 0 j * y j) n = sumTo y n := sumTo_congr fun j hj => by
  unfold eqs
  rw [if_pos hj, if_pos rfl]
  grind
theorem stat_of {n : Nat} {P : Mat} (h : Irr n P) {y : Nat → Rat} (hn : 1 ≤ n) (hy : ∀ i, i < n → i ≠ 0 → sumTo (fun j => y j * P j i) n = y i) : sumTo (fun j => y j * P j 0) n = y 0 := by
  have tot : sumTo (fun i => sumTo (fun j => y j * P j i) n) n = sumTo y n := by
    rw [sumTo_swap]
    refine sumTo_congr fun j hj => ?_
    rw [sumTo_mul, h.row j hj]
    grind
  have e1 : sumTo (fun i => sumTo (fun j => y j * P j i) n - y i) n = 0 := by
    rw [sumTo_sub, tot]
    grind
  have e2 : sumTo (fun i => sumTo (fun j => y j * P j i) n - y i) n = sumTo (fun i => if i = 0 then sumTo (fun j => y j * P j 0) n - y 0 else 0) n := sumTo_congr fun i hi => by
    by_cases e : i = 0
    · subst e
      rw [if_pos rfl]
    · rw [if_neg e, hy i hi e]
      grind
  rw [e2, sumTo_one (by omega)] at e1
  grind
theorem eqs_ns {n : Nat} {P : Mat} {D : Nat → Int} {N : Nat → Nat → Int} (F : Facts n P D N) : NS n (eqs n P) := fun y hy => by
  have h := F.irr
  have n1 := F.lo
  have y0 : sumTo y n = 0 := by
    have := hy 0 (by omega)
    rw [eqs_top] at this
    exact this
  have ys : ∀ i, i < n → i ≠ 0 → sumTo (fun j => y j * P j i) n = y i := fun i hi h0 => by
    have := hy i hi
    rw [eqs_row hi h0] at this
    grind
  have ys0 := stat_of h n1 ys
  exact stat_zero h n1 F.vpos F.stat (fun i hi => by
    by_cases e : i = 0
    · subst e
      exact ys0
    · exact ys i hi e) y0
theorem eqs_sh {n : Nat} {P : Mat} {D : Nat → Int} {N : Nat → Nat → Int} (F : Facts n P D N) {x : Nat → Rat} (hx : ∀ i, i < n → sumTo (fun j => eqs n P i j * x j) n = eqs n P i n) : ∀ i, i < n → x i = sh n P i := fun i hi => by
  have n1 := F.lo
  have s1 : sumTo (sh n P) n = 1 := by
    have e : sumTo (sh n P) n = sumTo (fun j => 1 / sumTo (vec n P) n * vec n P j) n := sumTo_congr fun j _ => by
      unfold sh
      grind
    rw [e, sumTo_mul]
    have := F.spos
    grind
  have k := eqs_ns F (fun j => x j - sh n P j) (fun i hi => by
    have e : sumTo (fun j => eqs n P i j * (x j - sh n P j)) n = sumTo (fun j => eqs n P i j * x j) n - sumTo (fun j => eqs n P i j * sh n P j) n := by
      rw [← sumTo_sub]
      exact sumTo_congr fun j _ => by grind
    rw [e, hx i hi]
    have r : eqs n P i n = if i = 0 then 1 else 0 := if_neg (Nat.lt_irrefl _)
    rw [r]
    by_cases e : i = 0
    · subst e
      rw [eqs_top, s1, if_pos rfl]
      grind
    · rw [eqs_row hi e, F.shstat hi, if_neg e]
      grind) i hi
  grind
theorem sh_sum {n : Nat} {P : Mat} {D : Nat → Int} {N : Nat → Nat → Int} (F : Facts n P D N) : sumTo (sh n P) n = 1 := by
  have e : sumTo (sh n P) n = sumTo (fun j => 1 / sumTo (vec n P) n * vec n P j) n := sumTo_congr fun j _ => by
    unfold sh
    grind
  rw [e, sumTo_mul]
  have := F.spos
  grind
/-- any shares are these -/
theorem sh_one {n : Nat} {P : Mat} {D : Nat → Int} {N : Nat → Nat → Int} (F : Facts n P D N) {x : Nat → Rat} (h1 : sumTo x n = 1) (hs : ∀ i, i < n → sumTo (fun j => x j * P j i) n = x i) : ∀ i, i < n → x i = sh n P i := by
  have n1 := F.lo
  refine eqs_sh F fun i hi => ?_
  have r : eqs n P i n = if i = 0 then 1 else 0 := if_neg (Nat.lt_irrefl _)
  rw [r]
  by_cases e : i = 0
  · subst e
    rw [eqs_top, h1, if_pos rfl]
  · rw [eqs_row hi e, hs i hi, if_neg e]
    grind
theorem eqs_rb {n : Nat} {P : Mat} {D : Nat → Int} {N : Nat → Nat → Int} (F : Facts n P D N) : RB 121 n (n + 1) (eqs n P) := fun i hi => by
  have n5 := F.hi
  by_cases e : i = 0
  · refine ⟨1, by decide, Nat.one_lt_two_pow (by decide), fun j hj => ⟨1, Nat.one_lt_two_pow (by decide), ?_⟩⟩
    unfold eqs
    rw [if_pos e, if_pos e]
    have : (1 : Rat) = ((1 : Int) : Rat) / ((1 : Int) : Rat) := by
      show (1 : Rat) = 1 / 1
      grind
    split <;> exact this
  · obtain ⟨E, e1, e2, e3⟩ := rowE_of (c := 24) (f := fun j => (if j = i then 1 else 0) - P j i) n fun j hj => by
      obtain ⟨Γp, Γs, nb, eq⟩ := F.cb
      obtain ⟨d1, d2⟩ := F.db j hj
      have nn := nb j hj i hi
      have dd : (D j : Rat) ≠ 0 := rat_ne (by omega)
      refine ⟨(if j = i then D j else 0) - N j i, D j, by omega, ?_, up2 d2 (by omega), ?_⟩
      · have : (2 : Nat) ^ 24 = 2 ^ 23 + 2 ^ 23 := by decide
        split <;> omega
      · show (if j = i then (1 : Rat) else 0) - P j i = _
        rw [eq j hj i hi, Rat.intCast_sub]
        split
        · grind
        · show (0 : Rat) - _ = ((0 : Rat) - _) / _
          grind
    have up : ∀ {z : Nat}, z ≤ 2 ^ (24 * n) → z < 2 ^ 121 := fun h => Nat.lt_of_le_of_lt h (Nat.pow_lt_pow_right (by omega) (by omega))
    refine ⟨E, e1, up e2, fun j hj => ?_⟩
    unfold eqs
    rw [if_neg e, if_neg e]
    by_cases l : j < n
    · obtain ⟨a, a1, a2⟩ := e3 j l
      exact ⟨a, up a1, by rw [if_pos l]; exact a2⟩
    · refine ⟨0, Nat.two_pow_pos _, ?_⟩
      rw [if_neg l]
      show (0 : Rat) = 0 / _
      grind
end Lw

/-! SG: small whole solutions of homogeneous equations (by pigeonholes), so small fractions. -/
namespace Lw
theorem pigeon : ∀ (N M : Nat) (f : Nat → Nat), (∀ i, i < N → f i < M) → M < N → ∃ i j, i < j ∧ j < N ∧ f i = f j
  | 0, M, f, _, l => by omega
  | N + 1, M, f, h, l => by
    by_cases e : ∃ i, i < N ∧ f i = f N
    · obtain ⟨i, hi, e⟩ := e
      exact ⟨i, N, hi, by omega, e⟩
    · have hn : ∀ i, i < N → f i ≠ f N := fun i hi e2 => e ⟨i, hi, e2⟩
      have hv := h N (by omega)
      obtain ⟨i, j, h1, h2, h3⟩ := pigeon N (M - 1) (fun i => if f i < f N then f i else f i - 1) (fun i hi => by
        have a1 := hn i hi
        have a2 := h i (by omega)
        show (if f i < f N then f i else f i - 1) < M - 1
        split <;> omega) (by omega)
      refine ⟨i, j, h1, by omega, ?_⟩
      have a1 := hn i (by omega)
      have a2 := hn j h2
      have h3 : (if f i < f N then f i else f i - 1) = (if f j < f N then f j else f j - 1) := h3
      split at h3 <;> split at h3 <;> omega
def prodN (R : Nat → Nat) : Nat → Nat
  | 0 => 1
  | n + 1 => prodN R n * R n
def codeN (R v : Nat → Nat) : Nat → Nat
  | 0 => 0
  | n + 1 => codeN R v n + v n * prodN R n
theorem code_lt {R v : Nat → Nat} : ∀ {n : Nat}, (∀ i, i < n → v i < R i) → codeN R v n < prodN R n
  | 0, _ => Nat.one_pos
  | n + 1, h => by
    have h1 := code_lt (R := R) (v := v) (n := n) fun i hi => h i (by omega)
    have h2 := h n (by omega)
    have h3 : (v n + 1) * prodN R n ≤ R n * prodN R n := Nat.mul_le_mul_right _ h2
    rw [Nat.add_mul, Nat.one_mul, Nat.mul_comm (R n)] at h3
    simp only [codeN, prodN]
    omega
theorem code_inj {R v u : Nat → Nat} : ∀ {n : Nat}, (∀ i, i < n → v i < R i) → (∀ i, i < n → u i < R i) → codeN R v n = codeN R u n → ∀ i, i < n → v i = u i
  | 0, _, _, _, i, hi => by omega
  | n + 1, hv, hu, e, i, hi => by
    have h1 := code_lt (R := R) (v := v) (n := n) fun i hi => hv i (by omega)
    have h2 := code_lt (R := R) (v := u) (n := n) fun i hi => hu i (by omega)
    simp only [codeN] at e
    have e1 : v n = u n := by
      have a1 : (codeN R v n + v n * prodN R n) / prodN R n = v n := by
        rw [Nat.add_mul_div_right _ _ (by omega), Nat.div_eq_of_lt h1, Nat.zero_add]
      have a2 : (codeN R u n + u n * prodN R n) / prodN R n = u n := by
        rw [Nat.add_mul_div_right _ _ (by omega), Nat.div_eq_of_lt h2, Nat.zero_add]
      rw [← a1, ← a2, e]
    rcases Nat.lt_or_ge i n with l | l
    · refine code_inj (fun i hi => hv i (by omega)) (fun i hi => hu i (by omega)) ?_ i l
      rw [e1] at e
      omega
    · have : i = n := by omega
      rw [this]
      exact e1
def dig (H t j : Nat) : Nat := t / H ^ j % H
theorem dig_inj {H : Nat} (h0 : 0 < H) : ∀ (m t s : Nat), t < H ^ m → s < H ^ m → (∀ j, j < m → dig H t j = dig H s j) → t = s
  | 0, t, s, h1, h2, _ => by
    rw [Nat.pow_zero] at h1 h2
    omega
  | m + 1, t, s, h1, h2, h => by
    have e0 := h 0 (by omega)
    unfold dig at e0
    rw [Nat.pow_zero, Nat.div_one, Nat.div_one] at e0
    have e1 : t / H = s / H := dig_inj h0 m _ _ (by
      rw [Nat.div_lt_iff_lt_mul h0, ← Nat.pow_succ]
      exact h1) (by
      rw [Nat.div_lt_iff_lt_mul h0, ← Nat.pow_succ]
      exact h2) fun j hj => by
        have := h (j + 1) (by omega)
        unfold dig at this ⊢
        rw [Nat.div_div_eq_div_mul, Nat.div_div_eq_div_mul, Nat.mul_comm H, ← Nat.pow_succ]
        exact this
    rw [← Nat.div_add_mod t H, ← Nat.div_add_mod s H, e0, e1]
theorem sumI_bound {f : Nat → Int} {B : Nat} : ∀ {n : Nat}, (∀ i, i < n → (f i).natAbs ≤ B) → (sumI f n).natAbs ≤ n * B
  | 0, _ => by simp [sumI]
  | n + 1, h => by
    have h1 := sumI_bound (f := f) (n := n) fun i hi => h i (by omega)
    have h2 := h n (by omega)
    simp only [sumI]
    rw [Nat.add_mul]
    omega
theorem sumI_sub (f g : Nat → Int) : ∀ n : Nat, sumI (fun i => f i - g i) n = sumI f n - sumI g n
  | 0 => by simp [sumI]
  | n + 1 => by
    simp only [sumI]
    rw [sumI_sub f g n]
    omega
theorem sumI_congr {f g : Nat → Int} : ∀ {n : Nat}, (∀ i, i < n → f i = g i) → sumI f n = sumI g n
  | 0, _ => rfl
  | n + 1, h => by
    simp only [sumI]
    rw [sumI_congr fun i hi => h i (by omega), h n (by omega)]
/-- the bits of all rows together, four more for each -/
def bitsN (b : Nat → Nat) : Nat → Nat
  | 0 => 0
  | n + 1 => bitsN b n + (b n + 4)
theorem prod_lt {R U : Nat → Nat} : ∀ {n : Nat}, 1 ≤ n → (∀ i, i < n → R i < U i) → prodN R n < prodN U n
  | 0, h, _ => by omega
  | 1, _, h => by
    simp only [prodN]
    have := h 0 (by omega)
    omega
  | n + 2, _, h => by
    have h1 := prod_lt (R := R) (U := U) (n := n + 1) (by omega) fun i hi => h i (by omega)
    have h2 := h (n + 1) (by omega)
    show prodN R (n + 1) * R (n + 1) < prodN U (n + 1) * U (n + 1)
    exact Nat.mul_lt_mul'' h1 h2
theorem prod_bits (b : Nat → Nat) (H : Nat) : ∀ n, prodN (fun i => 16 * (2 ^ b i * H)) n = 2 ^ bitsN b n * H ^ n
  | 0 => by simp [prodN, bitsN]
  | n + 1 => by
    simp only [prodN, bitsN]
    rw [prod_bits b H n, Nat.pow_add, Nat.pow_add, Nat.pow_succ H n]
    generalize 2 ^ bitsN b n = A
    generalize 2 ^ b n = B
    generalize H ^ n = C
    show A * C * (16 * (B * H)) = A * (B * 16) * (C * H)
    grind
theorem siegel {n m : Nat} {a : Nat → Nat → Int} {b : Nat → Nat} (n0 : 1 ≤ n) (nm : n < m) (m8 : m ≤ 8) (h : ∀ i, i < n → ∀ j, j < m → (a i j).natAbs < 2 ^ b i) :
    ∃ y : Nat → Int, (∃ j, j < m ∧ y j ≠ 0) ∧ (∀ i, i < n → sumI (fun j => a i j * y j) m = 0) ∧ ∀ j, j < m → (y j).natAbs < 2 ^ bitsN b n := by
  generalize hH : 2 ^ bitsN b n = H
  have H0 : 0 < H := by rw [← hH]; exact Nat.two_pow_pos _
  have val : ∀ i t, i < n → (sumI (fun j => a i j * (dig H t j : Int)) m).natAbs ≤ m * (2 ^ b i * H - 1) := fun i t hi => sumI_bound fun j hj => by
    rw [Int.natAbs_mul, Int.natAbs_natCast]
    have h1 := h i hi j hj
    have h2 : dig H t j < H := Nat.mod_lt _ H0
    have := Nat.mul_lt_mul'' h1 h2
    omega
  have R8 : ∀ i, m * (2 ^ b i * H - 1) ≤ 8 * (2 ^ b i * H - 1) := fun i => Nat.mul_le_mul_right _ m8
  have c0 : ∀ i, 0 < 2 ^ b i * H := fun i => Nat.mul_pos (Nat.two_pow_pos _) H0
  have ltR : ∀ t i, i < n → (sumI (fun j => a i j * (dig H t j : Int)) m + (8 * (2 ^ b i * H - 1) : Nat)).toNat < 16 * (2 ^ b i * H - 1) + 1 := fun t i hi => by
    have h1 := val i t hi
    have h2 := R8 i
    omega
  obtain ⟨s, t, h1, h2, h3⟩ := pigeon (H ^ m) (prodN (fun i => 16 * (2 ^ b i * H - 1) + 1) n) (fun t => codeN (fun i => 16 * (2 ^ b i * H - 1) + 1) (fun i => (sumI (fun j => a i j * (dig H t j : Int)) m + (8 * (2 ^ b i * H - 1) : Nat)).toNat) n) (fun t _ => code_lt (ltR t)) (by
    have e1 := prod_lt (R := fun i => 16 * (2 ^ b i * H - 1) + 1) (U := fun i => 16 * (2 ^ b i * H)) n0 fun i hi => by
      have := c0 i
      show 16 * (2 ^ b i * H - 1) + 1 < 16 * (2 ^ b i * H)
      omega
    rw [prod_bits, hH, Nat.mul_comm, ← Nat.pow_succ] at e1
    exact Nat.lt_of_lt_of_le e1 (Nat.pow_le_pow_right H0 nm))
  have e := code_inj (ltR s) (ltR t) h3
  refine ⟨fun j => (dig H s j : Int) - (dig H t j : Int), ?_, fun i hi => ?_, fun j hj => ?_⟩
  · refine Classical.byContradiction fun no => ?_
    have : s = t := dig_inj H0 m s t (by omega) h2 fun j hj => by
      refine Classical.byContradiction fun ne => no ⟨j, hj, ?_⟩
      show (dig H s j : Int) - (dig H t j : Int) ≠ 0
      omega
    omega
  · have e1 := e i hi
    have b1 := val i s hi
    have b2 := val i t hi
    have b3 := R8 i
    rw [sumI_congr (g := fun j => a i j * (dig H s j : Int) - a i j * (dig H t j : Int)) fun j _ => Int.mul_sub .., sumI_sub]
    omega
  · have l1 : dig H s j < H := Nat.mod_lt _ H0
    have l2 : dig H t j < H := Nat.mod_lt _ H0
    show ((dig H s j : Int) - (dig H t j : Int)).natAbs < H
    omega
theorem sumQ (f : Nat → Int) : ∀ n : Nat, sumTo (fun j => (f j : Rat)) n = (sumI f n : Rat)
  | 0 => rfl
  | n + 1 => by
    simp only [sumTo, sumI]
    rw [sumQ f n, Rat.intCast_add]
/-- what solves whole equations that bring only 0 to 0 is small, over one number -/
theorem small_sol {n : Nat} {c : Nat → Nat → Int} {d : Nat → Int} {b : Nat → Nat} {x : Nat → Rat} (n0 : 1 ≤ n) (n7 : n ≤ 7) (hc : ∀ i, i < n → ∀ j, j < n → (c i j).natAbs < 2 ^ b i) (hd : ∀ i, i < n → (d i).natAbs < 2 ^ b i)
    (hx : ∀ i, i < n → sumTo (fun j => (c i j : Rat) * x j) n = (d i : Rat)) (ns : ∀ z : Nat → Rat, (∀ i, i < n → sumTo (fun j => (c i j : Rat) * z j) n = 0) → ∀ j, j < n → z j = 0) :
    ∃ (Δ : Int) (Y : Nat → Int), 0 < Δ ∧ Δ.natAbs < 2 ^ bitsN b n ∧ ∀ j, j < n → (Y j).natAbs < 2 ^ bitsN b n ∧ x j = (Y j : Rat) / (Δ : Rat) := by
  obtain ⟨y, ⟨j0, hj0, y0⟩, hy, hb⟩ := siegel (n := n) (m := n + 1) (a := fun i j => if j = n then -d i else c i j) (b := b) n0 (by omega) (by omega) fun i hi j hj => by
    show (if j = n then -d i else c i j).natAbs < _
    split
    · rw [Int.natAbs_neg]; exact hd i hi
    · exact hc i hi j (by omega)
  have eq : ∀ i, i < n → sumTo (fun j => (c i j : Rat) * (y j : Rat)) n = (d i : Rat) * (y n : Rat) := fun i hi => by
    have h1 := hy i hi
    simp only [sumI, if_true] at h1
    rw [sumI_congr (g := fun j => c i j * y j) fun j hj => by
      show (if j = n then -d i else c i j) * y j = _
      rw [if_neg (by omega)]] at h1
    rw [sumTo_congr (g := fun j => ((c i j * y j : Int) : Rat)) fun j _ => (Rat.intCast_mul _ _).symm, sumQ, ← Rat.intCast_mul]
    congr 1
    rw [Int.neg_mul] at h1
    omega
  have yn : y n ≠ 0 := fun e => by
    have z := ns (fun j => (y j : Rat)) fun i hi => by
      rw [eq i hi, e]
      show _ * (0 : Rat) = 0
      grind
    rcases Nat.lt_or_ge j0 n with l | l
    · have z1 : ((y j0 : Int) : Rat) = 0 := z j0 l
      exact y0 (by exact_mod_cast z1)
    · have : j0 = n := by omega
      rw [this] at y0
      exact y0 e
  have ynq : (y n : Rat) ≠ 0 := fun e => yn (by exact_mod_cast e)
  have key : ∀ j, j < n → x j = (y j : Rat) / (y n : Rat) := fun j hj => by
    have z := ns (fun j => x j - (y j : Rat) / (y n : Rat)) (fun i hi => by
      rw [sumTo_congr (g := fun j => (c i j : Rat) * x j + (-1 / (y n : Rat)) * ((c i j : Rat) * (y j : Rat))) fun j _ => by
        rw [Rat.div_def, Rat.div_def]; grind, sumTo_add, sumTo_mul, hx i hi, eq i hi]
      rw [Rat.div_def]
      have := Rat.mul_inv_cancel _ ynq
      grind) j hj
    grind
  rcases (by omega : 0 < y n ∨ 0 < -y n) with p | p
  · exact ⟨y n, y, p, hb n (by omega), fun j hj => ⟨hb j (by omega), key j hj⟩⟩
  · refine ⟨-y n, fun j => -y j, p, by rw [Int.natAbs_neg]; exact hb n (by omega), fun j hj => ⟨by rw [Int.natAbs_neg]; exact hb j (by omega), ?_⟩⟩
    rw [key j hj, Rat.intCast_neg, Rat.intCast_neg, Rat.div_def, Rat.div_def]
    have : (-(y n : Rat))⁻¹ = -(y n : Rat)⁻¹ := by
      have := Rat.mul_inv_cancel _ ynq
      have h2 := Rat.mul_inv_cancel (-(y n : Rat)) (by grind)
      grind
    rw [this]
    grind
end Lw

/-! SH: sizes while unknowns are left out. -/
namespace Lw
theorem sum_ne {f : Nat → Rat} : ∀ {n : Nat}, sumTo f n ≠ 0 → ∃ i, i < n ∧ f i ≠ 0
  | 0, h => absurd rfl h
  | n + 1, h => by
    by_cases e : f n = 0
    · simp only [sumTo] at h
      obtain ⟨i, hi, h2⟩ := sum_ne (f := f) (n := n) (by grind)
      exact ⟨i, by omega, h2⟩
    · exact ⟨n, by omega, e⟩
theorem bits_const (b : Nat) : ∀ n, bitsN (fun _ => b) n = n * (b + 4)
  | 0 => by simp [bitsN]
  | n + 1 => by
    simp only [bitsN]
    rw [bits_const b n, Nat.add_mul, Nat.one_mul]
/-- where a table stands while unknowns are left out: the rows of the first one, in another order, of the first columns -/
structure GK (n w p : Nat) (σ : Nat → Nat) (A0 A : Mat) : Prop where
  lt : ∀ i, i < n → σ i < n
  rel : ∀ i, i < n → ∀ j, j < w → A0 (σ i) j = sumTo (fun k => A0 (σ i) k * A k j) p + (if i < p then 0 else A i j)
  inj : ∀ z : Nat → Rat, (∀ i, i < p → sumTo (fun k => A0 (σ i) k * z k) p = 0) → ∀ k, k < p → z k = 0
theorem GK.start (n w : Nat) (A : Mat) : GK n w 0 (fun i => i) A A := ⟨fun _ h => h, fun i _ j _ => by
  rw [if_neg (Nat.not_lt_zero _)]
  show A i j = 0 + A i j
  grind, fun _ _ k h => absurd h (Nat.not_lt_zero _)⟩
theorem GK.step {n w p s : Nat} {σ : Nat → Nat} {A0 A : Mat} (h : GK n w p σ A0 A) (hp : p < n) (hw : n ≤ w) (h1 : p ≤ s) (h2 : s < n) (hz : A s p ≠ 0) :
    GK n w (p + 1) (fun i => if i = p then σ s else if i = s then σ p else σ i) A0 (gj p (swp p s A)) := by
  have r : ∀ i, i < n → ∀ j, j < w → A0 (if i = p then σ s else if i = s then σ p else σ i) j = sumTo (fun k => A0 (if i = p then σ s else if i = s then σ p else σ i) k * swp p s A k j) p + (if i < p then 0 else swp p s A i j) := fun i hi j hj => by
    have e : ∀ x, sumTo (fun k => A0 x k * swp p s A k j) p = sumTo (fun k => A0 x k * A k j) p := fun x => sumTo_congr fun k hk => by
      unfold swp
      rw [if_neg (by omega), if_neg (by omega)]
    rw [e]
    unfold swp
    by_cases e1 : i = p
    · rw [if_pos e1, if_pos e1, if_neg (by omega), h.rel s h2 j hj, if_neg (by omega)]
    · rw [if_neg e1, if_neg e1]
      by_cases e2 : i = s
      · rw [if_pos e2, if_pos e2, if_neg (by omega), h.rel p hp j hj, if_neg (by omega)]
      · rw [if_neg e2, if_neg e2]
        exact h.rel i hi j hj
  have lt : ∀ i, i < n → (if i = p then σ s else if i = s then σ p else σ i) < n := fun i hi => by
    split
    · exact h.lt s h2
    · split
      · exact h.lt p hp
      · exact h.lt i hi
  have old : ∀ i, i < p → (if i = p then σ s else if i = s then σ p else σ i) = σ i := fun i hi => by rw [if_neg (by omega), if_neg (by omega)]
  have hpp : swp p s A p p ≠ 0 := by
    unfold swp
    rw [if_pos rfl]
    exact hz
  have inj0 : ∀ z : Nat → Rat, (∀ i, i < p → sumTo (fun k => A0 (if i = p then σ s else if i = s then σ p else σ i) k * z k) p = 0) → ∀ k, k < p → z k = 0 := fun z hz => h.inj z fun i hi => by
    have := hz i hi
    rw [old i hi] at this
    exact this
  have ht : ∃ τ : Nat → Nat, τ = fun i => if i = p then σ s else if i = s then σ p else σ i := ⟨_, rfl⟩
  obtain ⟨τ, ht⟩ := ht
  have hti : ∀ i, (if i = p then σ s else if i = s then σ p else σ i) = τ i := fun i => by rw [ht]
  rw [← ht]
  simp only [hti] at r lt inj0
  generalize swp p s A = B at *
  have r : ∀ i, i < n → ∀ j, j < w → A0 (τ i) j = sumTo (fun k => A0 (τ i) k * B k j) p + (if i < p then 0 else B i j) := r
  have inj0 : ∀ z : Nat → Rat, (∀ i, i < p → sumTo (fun k => A0 (τ i) k * z k) p = 0) → ∀ k, k < p → z k = 0 := inj0
  refine ⟨lt, fun i hi j hj => ?_, fun z hz2 => ?_⟩
  · have e1 := r i hi j hj
    have e2 := r i hi p (by omega)
    generalize hL : B p j / B p p = L
    have e3 : sumTo (fun k => A0 (τ i) k * gj p B k j) p = sumTo (fun k => A0 (τ i) k * B k j) p - L * sumTo (fun k => A0 (τ i) k * B k p) p := by
      rw [← sumTo_mul, ← sumTo_sub]
      refine sumTo_congr fun k hk => ?_
      unfold gj
      rw [if_neg (by omega), hL]
      grind
    have e4 : sumTo (fun k => A0 (τ i) k * gj p B k j) (p + 1) = sumTo (fun k => A0 (τ i) k * gj p B k j) p + A0 (τ i) p * L := by
      show _ + A0 (τ i) p * gj p B p j = _
      unfold gj
      rw [if_pos rfl, hL]
    have e5 : (if i < p + 1 then 0 else gj p B i j) = (if i < p then 0 else B i j) - (if i < p then 0 else B i p) * L := by
      rcases (by omega : i < p ∨ i = p ∨ p < i) with l | l | l
      · rw [if_pos (by omega), if_pos l, if_pos l]
        grind
      · subst l
        rw [if_pos (by omega), if_neg (by omega), if_neg (by omega), ← hL]
        grind
      · rw [if_neg (by omega), if_neg (by omega), if_neg (by omega)]
        unfold gj
        rw [if_neg (by omega), hL]
    rw [e4, e3, e5]
    grind
  · have y := inj0 (fun k => z k + B k p * z p) fun i hi => by
      have e1 := hz2 i (by omega)
      have e2 := r i (by omega) p (by omega)
      rw [if_pos hi] at e2
      have e3 : sumTo (fun k => A0 (τ i) k * (z k + B k p * z p)) p = sumTo (fun k => A0 (τ i) k * z k) p + z p * sumTo (fun k => A0 (τ i) k * B k p) p := by
        rw [← sumTo_mul, ← sumTo_add]
        exact sumTo_congr fun k hk => by grind
      have e4 : sumTo (fun k => A0 (τ i) k * z k) (p + 1) = sumTo (fun k => A0 (τ i) k * z k) p + A0 (τ i) p * z p := rfl
      rw [e3]
      grind
    have zp : z p = 0 := by
      have e1 := hz2 p (by omega)
      have e2 := r p hp p (by omega)
      rw [if_neg (by omega)] at e2
      have e3 : sumTo (fun k => A0 (τ p) k * z k) p = sumTo (fun k => (-z p) * (A0 (τ p) k * B k p)) p := sumTo_congr fun k hk => by
        have := y k hk
        have : z k = -(B k p * z p) := by grind
        rw [this]
        grind
      have e4 : sumTo (fun k => A0 (τ p) k * z k) (p + 1) = sumTo (fun k => A0 (τ p) k * z k) p + A0 (τ p) p * z p := rfl
      rw [e4, e3, sumTo_mul] at e1
      have e5 : B p p * z p = 0 := by grind
      grind
    intro k hk
    rcases Nat.lt_or_ge k p with l | l
    · have := y k l
      rw [zp] at this
      grind
    · have : k = p := by omega
      rw [this]
      exact zp
/-- whole numbers behind a table: each row times a number, each column times a number -/
structure Sc (b c d n w : Nat) (A0 : Mat) (E C : Nat → Int) (T : Nat → Nat → Int) : Prop where
  e : ∀ i, i < n → 0 < E i ∧ (E i).natAbs < 2 ^ c
  c : ∀ j, j < w → 0 < C j ∧ (C j).natAbs < 2 ^ d
  t : ∀ i, i < n → ∀ j, j < w → (T i j).natAbs < 2 ^ b ∧ A0 i j * ((E i : Rat) * (C j : Rat)) = (T i j : Rat)
theorem GK.top {b c d n w p j : Nat} {σ : Nat → Nat} {A0 A : Mat} {E C : Nat → Int} {T : Nat → Nat → Int} (h : GK n w p σ A0 A) (sc : Sc b c d n w A0 E C T) (hp : p ≤ n) (n7 : n ≤ 7) (hw : n ≤ w) (hj : j < w) :
    ∃ (Δ : Int) (Y : Nat → Int), 0 < Δ ∧ Δ.natAbs < 2 ^ (p * (b + 4) + 1) ∧ ∀ k, k < p → (Y k).natAbs < 2 ^ (p * (b + 4) + 1) ∧ A k j = ((Y k : Rat) * (C k : Rat)) / ((Δ : Rat) * (C j : Rat)) := by
  have cj := i_ne (sc.c j hj).1
  have ck : ∀ k, k < p → (C k : Rat) ≠ 0 := fun k hk => i_ne (sc.c k (by omega)).1
  rcases Nat.eq_zero_or_pos p with p0 | p0
  · subst p0
    exact ⟨1, fun _ => 0, by decide, by simp, fun k hk => absurd hk (Nat.not_lt_zero _)⟩
  obtain ⟨Δ, Y, d1, d2, d3⟩ := small_sol (n := p) (c := fun i k => T (σ i) k) (d := fun i => T (σ i) j) (b := fun _ => b) (x := fun k => A k j * (C j : Rat) / (C k : Rat)) p0 (by omega)
    (fun i hi k hk => (sc.t _ (h.lt i (by omega)) k (by omega)).1) (fun i hi => (sc.t _ (h.lt i (by omega)) j hj).1) (fun i hi => by
      have e1 := h.rel i (by omega) j hj
      rw [if_pos hi] at e1
      rw [← (sc.t _ (h.lt i (by omega)) j hj).2, e1]
      rw [sumTo_congr (g := fun k => ((E (σ i) : Rat) * (C j : Rat)) * (A0 (σ i) k * A k j)) fun k hk => by
        have a1 := (sc.t _ (h.lt i (by omega)) k (by omega)).2
        have a2 := ck k hk
        show (T (σ i) k : Rat) * (A k j * (C j : Rat) / (C k : Rat)) = _
        rw [← a1]
        generalize (C k : Rat) = x at *
        grind, sumTo_mul]
      grind) (fun z hz k hk => by
      have k1 := h.inj (fun k => (C k : Rat) * z k) (fun i hi => by
        have e1 := hz i hi
        rw [sumTo_congr (g := fun k => (E (σ i) : Rat) * (A0 (σ i) k * ((C k : Rat) * z k))) fun k hk => by
          show (T (σ i) k : Rat) * z k = _
          rw [← (sc.t _ (h.lt i (by omega)) k (by omega)).2]
          grind, sumTo_mul] at e1
        have := i_ne (sc.e _ (h.lt i (by omega))).1
        rcases Rat.mul_eq_zero.mp e1 with e | e
        · exact absurd e this
        · exact e) k hk
      rcases Rat.mul_eq_zero.mp k1 with e | e
      · exact absurd e (ck k hk)
      · exact e)
  rw [bits_const] at d2 d3
  refine ⟨Δ, Y, d1, up2 d2 (by omega), fun k hk => ?_⟩
  obtain ⟨y1, y2⟩ := d3 k hk
  refine ⟨up2 y1 (by omega), ?_⟩
  have a1 := ck k hk
  have a2 := i_ne d1
  have y2 : A k j * (C j : Rat) / (C k : Rat) = (Y k : Rat) / (Δ : Rat) := y2
  have : A k j = (A k j * (C j : Rat) / (C k : Rat)) * ((C k : Rat) / (C j : Rat)) := by
    generalize (C k : Rat) = x at *
    generalize (C j : Rat) = y at *
    grind
  rw [this, y2]
  generalize (C k : Rat) = x at *
  generalize (C j : Rat) = y at *
  generalize (Δ : Rat) = z at *
  grind
theorem SB.of {e : Nat} {q : Rat} {N D : Int} (hD : D ≠ 0) (h1 : N.natAbs < 2 ^ e) (h2 : D.natAbs < 2 ^ e) (h : q = (N : Rat) / (D : Rat)) : SB e q := by
  rcases (by omega : 0 < D ∨ 0 < -D) with p | p
  · exact ⟨N, D, p, h1, h2, h⟩
  · refine ⟨-N, -D, p, by rw [Int.natAbs_neg]; exact h1, by rw [Int.natAbs_neg]; exact h2, ?_⟩
    have := rat_ne hD
    rw [h, Rat.intCast_neg, Rat.intCast_neg]
    grind
theorem GK.sb {b c d n w p i j : Nat} {σ : Nat → Nat} {A0 A : Mat} {E C : Nat → Int} {T : Nat → Nat → Int} (h : GK n w p σ A0 A) (sc : Sc b c d n w A0 E C T) (hp : p ≤ n) (n7 : n ≤ 7) (hw : n ≤ w) (hi : i < n) (hj : j < w) {e : Nat}
    (e1 : p * (b + 4) + 1 + (b + 3) ≤ e) (e2 : p * (b + 4) + 1 + (c + d) ≤ e) : SB e (A i j) := by
  obtain ⟨Δ, Y, d1, d2, d3⟩ := h.top sc hp n7 hw hj
  generalize p * (b + 4) + 1 = β at *
  obtain ⟨c1, c2⟩ := sc.c j hj
  rcases Nat.lt_or_ge i p with l | l
  · obtain ⟨y1, y2⟩ := d3 i l
    obtain ⟨c3, c4⟩ := sc.c i (by omega)
    exact ⟨Y i * C i, Δ * C j, Int.mul_pos d1 c1, up2 (mul_lt2 y1 c4) (by omega), up2 (mul_lt2 d2 c2) (by omega), by rw [y2, Rat.intCast_mul, Rat.intCast_mul]⟩
  · have s1 := h.lt i hi
    obtain ⟨f1, f2⟩ := sc.e _ s1
    obtain ⟨t1, t2⟩ := sc.t _ s1 j hj
    have r := h.rel i hi j hj
    rw [if_neg (by omega)] at r
    have big : (sumI (fun k => T (σ i) k * Y k) p).natAbs ≤ p * (2 ^ (b + β)) := sumI_bound fun k hk => by
      have := mul_lt2 (sc.t _ s1 k (by omega)).1 (d3 k hk).1
      omega
    have b8 : p * 2 ^ (b + β) ≤ 7 * 2 ^ (b + β) := Nat.mul_le_mul_right _ (by omega)
    have b1 := mul_lt2 t1 d2
    have b3 : 2 ^ (b + β + 3) = 2 ^ (b + β) * 8 := by rw [Nat.pow_add]
    refine ⟨T (σ i) j * Δ - sumI (fun k => T (σ i) k * Y k) p, Δ * (E (σ i) * C j), Int.mul_pos d1 (Int.mul_pos f1 c1), up2 (m := e) (n := b + β + 3) (by omega) (by omega), up2 (mul_lt2 d2 (mul_lt2 f2 c2)) (by omega), ?_⟩
    have q1 := i_ne f1
    have q2 := i_ne c1
    have q3 := i_ne d1
    rw [Rat.intCast_sub, Rat.intCast_mul, Rat.intCast_mul, Rat.intCast_mul, ← sumQ, ← t2]
    have e3 : sumTo (fun k => ((T (σ i) k * Y k : Int) : Rat)) p = ((E (σ i) : Rat) * (C j : Rat) * (Δ : Rat)) * sumTo (fun k => A0 (σ i) k * A k j) p := by
      rw [← sumTo_mul]
      refine sumTo_congr fun k hk => ?_
      rw [Rat.intCast_mul, ← (sc.t _ s1 k (by omega)).2, (d3 k hk).2]
      have := i_ne (sc.c k (by omega)).1
      generalize (C k : Rat) = x at *
      generalize (C j : Rat) = y at *
      generalize (Δ : Rat) = z at *
      grind
    rw [e3]
    generalize sumTo (fun k => A0 (σ i) k * A k j) p = s at *
    generalize (E (σ i) : Rat) = x at *
    generalize (C j : Rat) = y at *
    generalize (Δ : Rat) = z at *
    have : A i j = A0 (σ i) j - s := by grind
    rw [this]
    grind
end Lw

/-! SP: sizes of what the law's leaving out of places computes. -/
namespace Lw
theorem sumTo_head (f : Nat → Rat) : ∀ n, sumTo f (n + 1) = f 0 + sumTo (fun k => f (k + 1)) n
  | 0 => by simp only [sumTo]; grind
  | n + 1 => by
    rw [show sumTo f (n + 1 + 1) = sumTo f (n + 1) + f (n + 1) from rfl, sumTo_head f n]
    simp only [sumTo]
    grind
theorem pm_irr {n : Nat} {P : Mat} (h : Irr n P) : ∀ k, k < n → Irr (n - k) (PM n P (n - k)) ∧ ∀ i, i < n - k → vec n P i = vec (n - k) (PM n P (n - k)) i
  | 0, _ => by
    rw [Nat.sub_zero, PM_self]
    exact ⟨h, fun i _ => rfl⟩
  | k + 1, hk => by
    obtain ⟨i1, l1⟩ := pm_irr h k (by omega)
    obtain ⟨m, hm⟩ : ∃ m, n - (k + 1) = m + 1 := ⟨n - (k + 1) - 1, by omega⟩
    have e1 : n - k = m + 2 := by omega
    rw [e1] at i1 l1
    rw [hm]
    have e2 : PM n P (m + 1) = elim (PM n P (m + 2)) (m + 1) := PM_step n P (m + 1) (by omega)
    refine ⟨by rw [e2]; exact i1.elim (by omega), fun i hi => ?_⟩
    rw [l1 i (by omega), e2, vec_lo m _ hi]
theorem Irr.pm {n m : Nat} {P : Mat} (h : Irr n P) (m1 : 1 ≤ m) (m2 : m ≤ n) : Irr m (PM n P m) := by
  have := (pm_irr h (n - m) (by omega)).1
  rwa [show n - (n - m) = m by omega] at this
theorem Irr.vec {n m : Nat} {P : Mat} (h : Irr n P) (m1 : 1 ≤ m) (m2 : m ≤ n) {i : Nat} (hi : i < m) : Lw.vec n P i = Lw.vec m (PM n P m) i := by
  have := (pm_irr h (n - m) (by omega)).2
  rw [show n - (n - m) = m by omega] at this
  exact this i hi
theorem Irr.vec_mu {n i : Nat} {P : Mat} (h : Irr n P) (i1 : 1 ≤ i) (i2 : i < n) : Lw.vec n P i = sumTo (fun j => Lw.vec n P j * mu n P j i) i := by
  obtain ⟨m, rfl⟩ : ∃ m, i = m + 1 := ⟨i - 1, by omega⟩
  rw [h.vec (m := m + 2) (by omega) (by omega) (i := m + 1) (by omega)]
  simp only [Lw.vec, if_neg (Nat.lt_irrefl _)]
  refine sumTo_congr fun j hj => ?_
  rw [h.vec (m := m + 1) (by omega) (by omega) hj, PM_step n P (m + 1) (by omega)]
  rfl
/-- whole numbers behind the rows of a walk -/
structure RowF (b n : Nat) (P : Mat) (D : Nat → Int) (N : Nat → Nat → Int) : Prop where
  d : ∀ i, i < n → 0 < D i ∧ (D i).natAbs < 2 ^ b
  n : ∀ i, i < n → ∀ j, j < n → (N i j).natAbs < 2 ^ b ∧ P i j = (N i j : Rat) / (D i : Rat)
/-- how what is left out leads back -/
structure PX (n m : Nat) (P X : Mat) : Prop where
  rel : ∀ j, j < m → ∀ i, i < n → (if i < m then PM n P m i j else X i j) = P i j + sumTo (fun k => P i (m + k) * X (m + k) j) (n - m)
  inj : ∀ z : Nat → Rat, (∀ i, m ≤ i → i < n → z i = sumTo (fun k => P i (m + k) * z (m + k)) (n - m)) → ∀ i, m ≤ i → i < n → z i = 0
theorem PX.base (n : Nat) (P : Mat) : PX n n P P := ⟨fun j hj i hi => by
  rw [if_pos hi, PM_self, Nat.sub_self]
  show P i j = P i j + 0
  grind, fun z _ i h1 h2 => by omega⟩
theorem PX.step {n m : Nat} {P X : Mat} (h : PX n (m + 1) P X) (hP : Irr n P) (m1 : 1 ≤ m) (m2 : m < n) : ∃ X', PX n m P X' := by
  have ir := hP.pm (m := m + 1) (by omega) (by omega)
  have g := ir.goes m1
  have rw1 : sumTo (PM n P (m + 1) m) m + PM n P (m + 1) m m = 1 := ir.row m (by omega)
  have e1 : PM n P m = elim (PM n P (m + 1)) m := PM_step n P m m2
  have rel := h.rel
  have inj := h.inj
  generalize hB : PM n P (m + 1) = B at *
  generalize hG : sumTo (B m) m = G at *
  have en : n - m = (n - (m + 1)) + 1 := by omega
  have sh : ∀ (f : Nat → Rat), sumTo f (n - m) = f 0 + sumTo (fun k => f (k + 1)) (n - (m + 1)) := fun f => by rw [en, sumTo_head]
  have idx : ∀ k, m + (k + 1) = m + 1 + k := fun k => by omega
  refine ⟨fun i j => if i = m then B m j / G else X i j + X i m * (B m j / G), fun j hj i hi => ?_, fun z hz => ?_⟩
  · have r1 := rel j (by omega) i hi
    have r2 := rel m (by omega) i hi
    rw [sh, Nat.add_zero, if_pos rfl]
    have e3 : sumTo (fun k => P i (m + (k + 1)) * (if m + (k + 1) = m then B m j / G else X (m + (k + 1)) j + X (m + (k + 1)) m * (B m j / G))) (n - (m + 1)) = sumTo (fun k => P i (m + 1 + k) * X (m + 1 + k) j) (n - (m + 1)) + (B m j / G) * sumTo (fun k => P i (m + 1 + k) * X (m + 1 + k) m) (n - (m + 1)) := by
      rw [← sumTo_mul, ← sumTo_add]
      refine sumTo_congr fun k hk => ?_
      rw [if_neg (by omega), idx]
      grind
    rw [e3, e1]
    rcases (by omega : i < m ∨ i = m ∨ m < i) with l | l | l
    · rw [if_pos (by omega)] at r1 r2
      rw [if_pos l]
      unfold elim
      rw [hG]
      have : B i m / G * B m j = B i m * (B m j / G) := by grind
      rw [this, r1]
      grind
    · subst l
      rw [if_pos (by omega)] at r1 r2
      rw [if_neg (by omega), if_pos rfl]
      have q : B i j = G * (B i j / G) := by grind
      generalize B i j / G = y at *
      grind
    · rw [if_neg (by omega)] at r1 r2
      rw [if_neg (by omega), if_neg (by omega), r1]
      grind
  · have y := inj (fun i => z i - X i m * z m) fun i h1 h2 => by
      have r2 := rel m (by omega) i h2
      rw [if_neg (by omega)] at r2
      have e3 := hz i (by omega) h2
      rw [sh, Nat.add_zero] at e3
      have e4 : sumTo (fun k => P i (m + 1 + k) * (z (m + 1 + k) - X (m + 1 + k) m * z m)) (n - (m + 1)) = sumTo (fun k => P i (m + (k + 1)) * z (m + (k + 1))) (n - (m + 1)) - z m * sumTo (fun k => P i (m + 1 + k) * X (m + 1 + k) m) (n - (m + 1)) := by
        rw [← sumTo_mul, ← sumTo_sub]
        refine sumTo_congr fun k hk => ?_
        rw [idx]
        grind
      show z i - X i m * z m = _
      rw [e4]
      grind
    have zm : z m = 0 := by
      have r2 := rel m (by omega) m m2
      rw [if_pos (by omega)] at r2
      have e3 := hz m (Nat.le_refl _) m2
      rw [sh, Nat.add_zero] at e3
      have e4 : sumTo (fun k => P m (m + (k + 1)) * z (m + (k + 1))) (n - (m + 1)) = z m * sumTo (fun k => P m (m + 1 + k) * X (m + 1 + k) m) (n - (m + 1)) := by
        rw [← sumTo_mul]
        refine sumTo_congr fun k hk => ?_
        have := y (m + 1 + k) (by omega) (by omega)
        rw [idx]
        have : z (m + 1 + k) = X (m + 1 + k) m * z m := by grind
        rw [this]
        grind
      rw [e4] at e3
      have e5 : G * z m = 0 := by grind
      rcases Rat.mul_eq_zero.mp e5 with e | e
      · grind
      · exact e
    intro i h1 h2
    rcases Nat.lt_or_ge m i with l | l
    · have := y i (by omega) h2
      rw [zm] at this
      grind
    · have : i = m := by omega
      rw [this]
      exact zm
theorem px_all {n : Nat} {P : Mat} (hP : Irr n P) : ∀ k, k < n → ∃ X, PX n (n - k) P X
  | 0, _ => ⟨P, by rw [Nat.sub_zero]; exact PX.base n P⟩
  | k + 1, hk => by
    obtain ⟨X, h⟩ := px_all hP k (by omega)
    have e : n - k = (n - (k + 1)) + 1 := by omega
    rw [e] at h
    exact h.step hP (by omega) (by omega)
theorem Irr.px {n m : Nat} {P : Mat} (h : Irr n P) (m1 : 1 ≤ m) (m2 : m ≤ n) : ∃ X, PX n m P X := by
  have := px_all h (n - m) (by omega)
  rwa [show n - (n - m) = m by omega] at this
theorem seven {k e : Nat} (h : k ≤ 7) : k * 2 ^ e < 2 ^ (e + 3) := two3 h e
/-- what is left out, solved with whole numbers -/
theorem px_sol {n m b c : Nat} {P X : Mat} {D : Nat → Int} {N : Nat → Nat → Int} (hx : PX n m P X) (F : RowF b n P D N) (n7 : n ≤ 7) (mn : m ≤ n) (bc : b + 1 ≤ c) {R : Nat → Int} (hR : ∀ i, i < n → (R i).natAbs < 2 ^ c) {x y : Nat → Rat}
    (hs : ∀ i, i < n → (if i < m then y i else x i) = (R i : Rat) / (D i : Rat) + sumTo (fun k => P i (m + k) * x (m + k)) (n - m)) :
    ∃ (Δ : Int) (A : Nat → Int), 0 < Δ ∧ Δ.natAbs < 2 ^ ((n - m) * (c + 4) + 1) ∧ ∀ i, i < m → (A i).natAbs < 2 ^ ((n - m) * (c + 4) + 1 + (c + 3)) ∧ y i = (A i : Rat) / ((D i : Rat) * (Δ : Rat)) := by
  have dn : ∀ i, i < n → (D i : Rat) ≠ 0 := fun i hi => i_ne (F.d i hi).1
  have mul1 : ∀ i, i < n → (D i : Rat) * ((R i : Rat) / (D i : Rat)) = R i := fun i hi => by
    have := dn i hi
    grind
  have mulN : ∀ i, i < n → ∀ f : Nat → Rat, (D i : Rat) * sumTo (fun k => P i (m + k) * f (m + k)) (n - m) = sumTo (fun k => (N i (m + k) : Rat) * f (m + k)) (n - m) := fun i hi f => by
    rw [← sumTo_mul]
    refine sumTo_congr fun k hk => ?_
    rw [(F.n i hi (m + k) (by omega)).2]
    have := dn i hi
    generalize (D i : Rat) = z at *
    grind
  obtain ⟨Δ, Y, d1, d2, d3⟩ : ∃ (Δ : Int) (Y : Nat → Int), 0 < Δ ∧ Δ.natAbs < 2 ^ ((n - m) * (c + 4) + 1) ∧ ∀ k, k < n - m → (Y k).natAbs < 2 ^ ((n - m) * (c + 4) + 1) ∧ x (m + k) = (Y k : Rat) / (Δ : Rat) := by
    rcases Nat.eq_zero_or_pos (n - m) with p0 | p0
    · rw [p0]
      exact ⟨1, fun _ => 0, by decide, by simp, fun k hk => absurd hk (Nat.not_lt_zero _)⟩
    obtain ⟨Δ, Y, d1, d2, d3⟩ := small_sol (n := n - m) (c := fun i k => (if k = i then D (m + i) else 0) - N (m + i) (m + k)) (d := fun i => R (m + i)) (b := fun _ => c) (x := fun k => x (m + k)) p0 (by omega)
      (fun i hi k hk => by
        have a1 := (F.n (m + i) (by omega) (m + k) (by omega)).1
        have a2 := (F.d (m + i) (by omega)).2
        have a3 : (2 : Nat) ^ (b + 1) = 2 ^ b + 2 ^ b := by rw [Nat.pow_succ]; omega
        refine up2 (n := b + 1) ?_ bc
        show ((if k = i then D (m + i) else 0) - N (m + i) (m + k)).natAbs < _
        split <;> omega) (fun i hi => hR _ (by omega)) (fun i hi => by
        have e1 := hs (m + i) (by omega)
        rw [if_neg (by omega)] at e1
        have e2 : sumTo (fun k => (((if k = i then D (m + i) else 0) - N (m + i) (m + k) : Int) : Rat) * x (m + k)) (n - m) = (D (m + i) : Rat) * x (m + i) - sumTo (fun k => (N (m + i) (m + k) : Rat) * x (m + k)) (n - m) := by
          rw [← sumTo_one (c := (D (m + i) : Rat) * x (m + i)) (i := i) (n := n - m) hi, ← sumTo_sub]
          refine sumTo_congr fun k hk => ?_
          rw [Rat.intCast_sub]
          by_cases e : k = i
          · rw [if_pos e, if_pos e, e]
            grind
          · rw [if_neg e, if_neg e]
            show (0 - _) * _ = _
            grind
        rw [e2, ← mulN (m + i) (by omega)]
        have e3 := mul1 (m + i) (by omega)
        show _ = (R (m + i) : Rat)
        rw [← e3]
        generalize (D (m + i) : Rat) = z at *
        generalize x (m + i) = u at *
        rw [e1]
        grind) (fun z hz k hk => by
        have := hx.inj (fun i => z (i - m)) (fun i h1 h2 => by
          obtain ⟨i, rfl⟩ : ∃ j, i = m + j := ⟨i - m, by omega⟩
          have e1 := hz i (by omega)
          have e2 : sumTo (fun k => (((if k = i then D (m + i) else 0) - N (m + i) (m + k) : Int) : Rat) * z k) (n - m) = (D (m + i) : Rat) * z i - sumTo (fun k => (N (m + i) (m + k) : Rat) * z k) (n - m) := by
            rw [← sumTo_one (c := (D (m + i) : Rat) * z i) (i := i) (n := n - m) (by omega), ← sumTo_sub]
            refine sumTo_congr fun k hk => ?_
            rw [Rat.intCast_sub]
            by_cases e : k = i
            · rw [if_pos e, if_pos e, e]
              grind
            · rw [if_neg e, if_neg e]
              show (0 - _) * _ = _
              grind
          rw [e2] at e1
          have e3 := mulN (m + i) h2 (fun i => z (i - m))
          have e4 : sumTo (fun k => (N (m + i) (m + k) : Rat) * z (m + k - m)) (n - m) = sumTo (fun k => (N (m + i) (m + k) : Rat) * z k) (n - m) := sumTo_congr fun k hk => by rw [Nat.add_sub_cancel_left]
          rw [e4] at e3
          show z (m + i - m) = _
          rw [Nat.add_sub_cancel_left]
          have := dn (m + i) h2
          have e5 : (D (m + i) : Rat) * z i = (D (m + i) : Rat) * sumTo (fun k => P (m + i) (m + k) * z (m + k - m)) (n - m) := by
            rw [e3]
            grind
          generalize sumTo (fun k => P (m + i) (m + k) * z (m + k - m)) (n - m) = q at *
          generalize (D (m + i) : Rat) = w at *
          have : w * (z i - q) = 0 := by grind
          rcases Rat.mul_eq_zero.mp this with e | e
          · exact absurd e ‹_›
          · grind) (m + k) (by omega) (by omega)
        have this : z (m + k - m) = 0 := this
        rwa [Nat.add_sub_cancel_left] at this)
    rw [bits_const] at d2 d3
    exact ⟨Δ, Y, d1, up2 d2 (by omega), fun k hk => ⟨up2 (d3 k hk).1 (by omega), (d3 k hk).2⟩⟩
  refine ⟨Δ, fun i => R i * Δ + sumI (fun k => N i (m + k) * Y k) (n - m), d1, d2, fun i hi => ?_⟩
  generalize hβ : (n - m) * (c + 4) + 1 = β at *
  constructor
  · have big : (sumI (fun k => N i (m + k) * Y k) (n - m)).natAbs ≤ (n - m) * 2 ^ (b + β) := sumI_bound fun k hk => by
      have := mul_lt2 (F.n i (by omega) (m + k) (by omega)).1 (d3 k hk).1
      omega
    have b8 : (n - m) * 2 ^ (b + β) ≤ 7 * 2 ^ (b + β) := Nat.mul_le_mul_right _ (by omega)
    have b1 := mul_lt2 (hR i (by omega)) d2
    have b2 : 2 ^ (b + β) ≤ 2 ^ (c + β) := Nat.pow_le_pow_right (by omega) (by omega)
    have b3 : 2 ^ (β + (c + 3)) = 2 ^ (c + β) * 8 := by rw [← Nat.add_assoc, Nat.pow_add, Nat.add_comm β c]
    show (R i * Δ + sumI (fun k => N i (m + k) * Y k) (n - m)).natAbs < _
    omega
  · have e1 := hs i (by omega)
    rw [if_pos hi] at e1
    have e2 := mulN i (by omega) x
    have e3 := mul1 i (by omega)
    have e4 : (Δ : Rat) * sumTo (fun k => (N i (m + k) : Rat) * x (m + k)) (n - m) = (sumI (fun k => N i (m + k) * Y k) (n - m) : Rat) := by
      rw [← sumQ, ← sumTo_mul]
      refine sumTo_congr fun k hk => ?_
      rw [(d3 k hk).2, Rat.intCast_mul]
      have := i_ne d1
      generalize (Δ : Rat) = z at *
      grind
    have := dn i (by omega)
    have := i_ne d1
    rw [Rat.intCast_add, Rat.intCast_mul, ← e4, ← e2, e1]
    generalize sumTo (fun k => P i (m + k) * x (m + k)) (n - m) = s at *
    generalize (D i : Rat) = z at *
    generalize (Δ : Rat) = w at *
    generalize (R i : Rat) = v at *
    grind
theorem pm_col {n m b j : Nat} {P : Mat} {D : Nat → Int} {N : Nat → Nat → Int} (h : Irr n P) (F : RowF b n P D N) (n7 : n ≤ 7) (m1 : 1 ≤ m) (mn : m ≤ n) (hj : j < m) :
    ∃ (Δ : Int) (A : Nat → Int), 0 < Δ ∧ Δ.natAbs < 2 ^ ((n - m) * (b + 5) + 1) ∧ ∀ i, i < m → (A i).natAbs < 2 ^ ((n - m) * (b + 5) + 1 + (b + 4)) ∧ PM n P m i j = (A i : Rat) / ((D i : Rat) * (Δ : Rat)) := by
  obtain ⟨X, hx⟩ := h.px m1 mn
  obtain ⟨Δ, A, d1, d2, d3⟩ := px_sol (c := b + 1) hx F n7 mn (Nat.le_refl _) (R := fun i => N i j) (fun i hi => up2 (F.n i hi j (by omega)).1 (by omega)) (x := fun i => X i j) (y := fun i => PM n P m i j) (fun i hi => by
    rw [hx.rel j hj i hi, (F.n i hi j (by omega)).2])
  exact ⟨Δ, A, d1, d2, d3⟩
theorem pm_pre {n m b k : Nat} {P : Mat} {D : Nat → Int} {N : Nat → Nat → Int} (h : Irr n P) (F : RowF b n P D N) (n7 : n ≤ 7) (m1 : 1 ≤ m) (mn : m ≤ n) (hk : k ≤ m) {i : Nat} (hi : i < m) : SB ((n - m) * (b + 7) + 1 + (b + 6)) (sumTo (PM n P m i) k) := by
  obtain ⟨X, hx⟩ := h.px m1 mn
  obtain ⟨Δ, A, d1, d2, d3⟩ := px_sol (c := b + 3) hx F n7 mn (by omega) (R := fun i => sumI (N i) k) (fun i hi => by
      have b1 : (sumI (N i) k).natAbs ≤ k * 2 ^ b := sumI_bound fun j hj => by
        have := (F.n i hi j (by omega)).1
        omega
      have b2 : k * 2 ^ b ≤ 7 * 2 ^ b := Nat.mul_le_mul_right _ (by omega)
      have b3 : 2 ^ (b + 3) = 2 ^ b * 8 := by rw [Nat.pow_add]
      have := Nat.two_pow_pos b
      show (sumI (N i) k).natAbs < _
      omega) (x := fun i => sumTo (X i) k) (y := fun i => sumTo (PM n P m i) k) (fun i hi => by
    have e1 : sumTo (fun j => if i < m then PM n P m i j else X i j) k = sumTo (fun j => P i j + sumTo (fun l => P i (m + l) * X (m + l) j) (n - m)) k := sumTo_congr fun j hj => hx.rel j (by omega) i hi
    rw [sumTo_add, sumTo_swap] at e1
    have e2 : (if i < m then sumTo (PM n P m i) k else sumTo (X i) k) = sumTo (fun j => if i < m then PM n P m i j else X i j) k := by split <;> rfl
    have e3 : sumTo (fun j => P i j) k = (sumI (N i) k : Rat) / (D i : Rat) := by
      rw [← sumI_cast]
      exact sumTo_congr fun j hj => (F.n i hi j (by omega)).2
    rw [e2, e1, e3]
    congr 1
    exact sumTo_congr fun l hl => sumTo_mul ..)
  obtain ⟨a1, a2⟩ := d3 i hi
  obtain ⟨q1, q2⟩ := F.d i (by omega)
  rw [show b + 3 + 4 = b + 7 by omega] at a1 d2
  exact ⟨A i, D i * Δ, Int.mul_pos q1 d1, up2 a1 (by omega), up2 (mul_lt2 q2 d2) (by omega), by rw [a2, Rat.intCast_mul]⟩
theorem q_div {t u v : Rat} (h : v ≠ 0) (e : t = u * v) : t / v = u := by
  rw [e]
  grind
theorem q_dd {z x v w y : Rat} (hv : v ≠ 0) (hw : w ≠ 0) (hx : x ≠ 0) (hy : y ≠ 0) : z / (v * y) / (w / (x * y)) = z * x / (v * w) := by
  refine q_div (fun e => hw ?_) ?_
  · have : w = (w / (x * y)) * (x * y) := by grind
    rw [this, e]
    grind
  · grind
theorem mu_col {n l b : Nat} {P : Mat} {D : Nat → Int} {N : Nat → Nat → Int} (h : Irr n P) (F : RowF b n P D N) (n7 : n ≤ 7) (l1 : 1 ≤ l) (ln : l < n) :
    ∃ (Γ : Int) (A : Nat → Int), 0 < Γ ∧ Γ.natAbs < 2 ^ ((n - (l + 1)) * (b + 5) + 1 + (b + 5)) ∧ ∀ i, i < l → (A i).natAbs < 2 ^ ((n - (l + 1)) * (b + 5) + 1 + (b + 4)) ∧ mu n P i l = ((A i : Rat) * (D l : Rat)) / ((D i : Rat) * (Γ : Rat)) := by
  obtain ⟨Δ, A, d1, d2, d3⟩ := pm_col h F n7 (m := l + 1) (by omega) (by omega) (j := l) (by omega)
  have ir := h.pm (m := l + 1) (by omega) (by omega)
  have g := ir.goes l1
  have r : sumTo (PM n P (l + 1) l) l + PM n P (l + 1) l l = 1 := ir.row l (by omega)
  obtain ⟨q1, q2⟩ := F.d l ln
  obtain ⟨a1, a2⟩ := d3 l (by omega)
  generalize (n - (l + 1)) * (b + 5) + 1 = β at *
  have dl := i_ne q1
  have dd := i_ne d1
  have hG : sumTo (PM n P (l + 1) l) l = ((D l * Δ - A l : Int) : Rat) / ((D l : Rat) * (Δ : Rat)) := by
    rw [Rat.intCast_sub, Rat.intCast_mul]
    rw [a2] at r
    generalize (D l : Rat) = x at *
    generalize (Δ : Rat) = y at *
    have : sumTo (PM n P (l + 1) l) l = 1 - (A l : Rat) / (x * y) := by grind
    rw [this]
    grind
  have pos : 0 < D l * Δ - A l := by
    rw [hG] at g
    exact pos_i g (Rat.mul_pos (i_pos q1) (i_pos d1))
  refine ⟨D l * Δ - A l, A, pos, ?_, fun i hi => ⟨(d3 i (by omega)).1, ?_⟩⟩
  · have b1 := mul_lt2 q2 d2
    have b2 : 2 ^ (b + β) ≤ 2 ^ (β + (b + 4)) := Nat.pow_le_pow_right (by omega) (by omega)
    have b3 : 2 ^ (β + (b + 5)) = 2 ^ (β + (b + 4)) * 2 := by rw [← Nat.pow_succ]; rfl
    omega
  · unfold mu
    rw [hG, (d3 i (by omega)).2]
    have a3 := i_ne (F.d i (by omega)).1
    have a4 := i_ne pos
    clear hG a2 r g
    generalize ((D l * Δ - A l : Int) : Rat) = w at *
    generalize (D l : Rat) = x at *
    generalize (D i : Rat) = v at *
    generalize (Δ : Rat) = y at *
    generalize (A i : Rat) = z at *
    exact q_dd a3 a4 dl dd
/-- shares with whole numbers -/
theorem Irr.vpos {n : Nat} {P : Mat} (h : Irr n P) (n1 : 1 ≤ n) : (∀ i, i < n → 0 < Lw.vec n P i) ∧ 0 < sumTo (Lw.vec n P) n := by
  have h1 := (vec_stat n P h n1).1
  exact ⟨h1, sumTo_pos (j := 0) (fun i hi => by have := h1 i hi; grind) (by omega) (h1 0 (by omega))⟩
theorem Irr.shpos {n : Nat} {P : Mat} (h : Irr n P) {i : Nat} (hi : i < n) : 0 < sh n P i := div_ps ((h.vpos (by omega)).1 i hi) (h.vpos (by omega)).2
theorem Irr.shstat {n : Nat} {P : Mat} (h : Irr n P) {i : Nat} (hi : i < n) : sumTo (fun j => sh n P j * P j i) n = sh n P i := by
  have e : sumTo (fun j => sh n P j * P j i) n = sumTo (fun j => (1 / sumTo (Lw.vec n P) n) * (Lw.vec n P j * P j i)) n := sumTo_congr fun j hj => by
    unfold sh
    rw [Rat.div_def, Rat.div_def]
    grind
  rw [e, sumTo_mul, (vec_stat n P h (by omega)).2 i hi]
  unfold sh
  rw [Rat.div_def, Rat.div_def]
  grind
theorem Irr.shsum {n : Nat} {P : Mat} (h : Irr n P) (n1 : 1 ≤ n) : sumTo (sh n P) n = 1 := by
  have e : sumTo (sh n P) n = sumTo (fun i => (1 / sumTo (Lw.vec n P) n) * Lw.vec n P i) n := sumTo_congr fun i _ => by
    unfold sh
    rw [Rat.div_def, Rat.div_def]
    grind
  rw [e, sumTo_mul]
  have := (h.vpos n1).2
  rw [Rat.div_def]
  grind
theorem Irr.one {n : Nat} {P : Mat} (h : Irr n P) (n1 : 1 ≤ n) {x : Nat → Rat} (h1 : sumTo x n = 1) (hs : ∀ i, i < n → i ≠ 0 → sumTo (fun j => x j * P j i) n = x i) : ∀ i, i < n → x i = sh n P i := by
  have h0 := stat_of h n1 hs
  have hs : ∀ i, i < n → sumTo (fun j => x j * P j i) n = x i := fun i hi => by
    by_cases e : i = 0
    · rw [e]; exact h0
    · exact hs i hi e
  intro i hi
  have z := stat_zero h (π := sh n P) (y := fun i => x i - sh n P i) n1 (fun i hi => h.shpos hi) (fun i hi => h.shstat hi) (fun i hi => by
    rw [sumTo_congr (g := fun j => x j * P j i - sh n P j * P j i) fun j _ => by grind, sumTo_sub, hs i hi, h.shstat hi]) (by
    rw [sumTo_sub, h1, h.shsum n1]
    grind) i hi
  grind
theorem pos_l {a b : Int} (h : 0 < a * b) (hb : 0 < b) : 0 < a := by
  rcases Int.lt_or_le 0 a with l | l
  · exact l
  · have := Int.mul_nonpos_of_nonpos_of_nonneg l (Int.le_of_lt hb)
    omega
theorem sh_int {n b : Nat} {P : Mat} {D : Nat → Int} {N : Nat → Nat → Int} (h : Irr n P) (F : RowF b n P D N) (n7 : n ≤ 7) (n1 : 1 ≤ n) :
    ∃ u : Nat → Int, (∀ j, j < n → 0 < u j ∧ (u j).natAbs < 2 ^ ((n - 1) * (b + 5) + 1)) ∧ ∀ j, j < n → sh n P j = ((u j * D j : Int) : Rat) / (sumI (fun j => u j * D j) n : Rat) := by
  have dn : ∀ i, i < n → (D i : Rat) ≠ 0 := fun i hi => i_ne (F.d i hi).1
  obtain ⟨u, ⟨j0, hj0, u0⟩, hu, ub⟩ : ∃ u : Nat → Int, (∃ j, j < n ∧ u j ≠ 0) ∧ (∀ i, i < n - 1 → sumI (fun j => (N j (i + 1) - if j = i + 1 then D j else 0) * u j) n = 0) ∧ ∀ j, j < n → (u j).natAbs < 2 ^ ((n - 1) * (b + 5) + 1) := by
    rcases Nat.eq_zero_or_pos (n - 1) with p | p
    · rw [p]
      exact ⟨fun _ => 1, ⟨0, by omega, by decide⟩, fun i hi => absurd hi (Nat.not_lt_zero _), fun j _ => by simp⟩
    · obtain ⟨u, h1, h2, h3⟩ := siegel (n := n - 1) (m := n) (a := fun i j => N j (i + 1) - if j = i + 1 then D j else 0) (b := fun _ => b + 1) p (by omega) (by omega) (fun i hi j hj => by
        have a1 := (F.n j hj (i + 1) (by omega)).1
        have a2 := (F.d j hj).2
        have a3 : (2 : Nat) ^ (b + 1) = 2 ^ b + 2 ^ b := by rw [Nat.pow_succ]; omega
        show (N j (i + 1) - if j = i + 1 then D j else 0).natAbs < _
        split <;> omega)
      rw [bits_const] at h3
      rw [show b + 1 + 4 = b + 5 by omega] at h3
      exact ⟨u, h1, h2, fun j hj => up2 (h3 j hj) (by omega)⟩
  have st : ∀ i, i < n → i ≠ 0 → sumTo (fun j => ((u j * D j : Int) : Rat) * P j i) n = ((u i * D i : Int) : Rat) := fun i hi i0 => by
    have e1 := hu (i - 1) (by omega)
    rw [show i - 1 + 1 = i by omega, sumI_congr (g := fun j => N j i * u j - if j = i then u j * D j else 0) fun j _ => by
      rw [Int.sub_mul]
      split
      · rw [Int.mul_comm (D j)]
      · rw [Int.zero_mul], sumI_sub] at e1
    have e2 : sumTo (fun j => ((u j * D j : Int) : Rat) * P j i) n = (sumI (fun j => N j i * u j) n : Rat) := by
      rw [← sumQ]
      refine sumTo_congr fun j hj => ?_
      rw [(F.n j hj i hi).2, Rat.intCast_mul, Rat.intCast_mul]
      have := dn j hj
      generalize (D j : Rat) = z at *
      grind
    have e3 : (sumI (fun j => if j = i then u j * D j else 0) n : Rat) = ((u i * D i : Int) : Rat) := by
      rw [← sumQ, ← sumTo_one (c := ((u i * D i : Int) : Rat)) hi]
      refine sumTo_congr fun j _ => ?_
      by_cases e : j = i
      · rw [if_pos e, if_pos e, e]
      · rw [if_neg e, if_neg e]
        rfl
    rw [e2, ← e3]
    congr 1
    omega
  have st0 := stat_of h n1 st
  have stA : ∀ i, i < n → sumTo (fun j => ((u j * D j : Int) : Rat) * P j i) n = ((u i * D i : Int) : Rat) := fun i hi => by
    by_cases e : i = 0
    · rw [e]; exact st0
    · exact st i hi e
  have S0 : sumI (fun j => u j * D j) n ≠ 0 := fun e => by
    have z := stat_zero h (π := sh n P) (y := fun j => ((u j * D j : Int) : Rat)) n1 (fun i hi => h.shpos hi) (fun i hi => h.shstat hi) stA (by rw [sumQ, e]; rfl) j0 hj0
    have z : u j0 * D j0 = 0 := by exact_mod_cast z
    have := (F.d j0 hj0).1
    rcases Int.mul_eq_zero.mp z with e | e
    · exact u0 e
    · omega
  have S0q := rat_ne S0
  have eq : ∀ j, j < n → sh n P j = ((u j * D j : Int) : Rat) / (sumI (fun j => u j * D j) n : Rat) := fun j hj => by
    refine (h.one n1 (x := fun j => ((u j * D j : Int) : Rat) / (sumI (fun j => u j * D j) n : Rat)) ?_ (fun i hi _ => ?_) j hj).symm
    · rw [sumI_cast]
      grind
    · rw [sumTo_congr (g := fun j => (1 / (sumI (fun j => u j * D j) n : Rat)) * (((u j * D j : Int) : Rat) * P j i)) fun j _ => by grind, sumTo_mul, stA i hi]
      grind
  rcases (by omega : 0 < sumI (fun j => u j * D j) n ∨ 0 < -sumI (fun j => u j * D j) n) with p | p
  · refine ⟨u, fun j hj => ⟨?_, ub j hj⟩, eq⟩
    have := h.shpos hj
    rw [eq j hj] at this
    exact pos_l (pos_i this (i_pos p)) (F.d j hj).1
  · have ne : sumI (fun j => -u j * D j) n = -sumI (fun j => u j * D j) n := by
      have : ∀ k, sumI (fun j => -u j * D j) k = -sumI (fun j => u j * D j) k := fun k => by
        induction k with
        | zero => rfl
        | succ k ih => simp only [sumI]; rw [ih, Int.neg_mul]; omega
      exact this n
    have eq2 : ∀ j, j < n → sh n P j = ((-u j * D j : Int) : Rat) / (sumI (fun j => -u j * D j) n : Rat) := fun j hj => by
      rw [eq j hj, ne, Int.neg_mul, Rat.intCast_neg, Rat.intCast_neg]
      grind
    refine ⟨fun j => -u j, fun j hj => ⟨?_, by rw [Int.natAbs_neg]; exact ub j hj⟩, eq2⟩
    have := h.shpos hj
    rw [eq2 j hj] at this
    exact pos_l (pos_i this (i_pos (show 0 < sumI (fun j => -u j * D j) n by rw [ne]; exact p))) (F.d j hj).1
/-- the sizes that the shares' computing meets -/
structure Sz (n e1 e2 e3 : Nat) (P : Mat) : Prop where
  irr : Irr n P
  lo : 1 ≤ n
  hi : n ≤ 7
  pm : ∀ m, 2 ≤ m → m ≤ n → ∀ i, i < m → ∀ j, j < m → SB e1 (PM n P m i j)
  row : ∀ m, 1 ≤ m → m < n → ∀ k, k ≤ m → SB e1 (sumTo (PM n P (m + 1) m) k)
  mu : ∀ l, 1 ≤ l → l < n → ∀ j, j < l → SB e1 (mu n P j l)
  vec : ∀ i, i < n → SB e2 (vec n P i)
  sh : ∀ i, i < n → SB e2 (sh n P i)
  vsum : ∀ k, k ≤ n → SB e2 (sumTo (Lw.vec n P) k)
  vmu : ∀ l, 1 ≤ l → l < n → ∀ j, j < l → SB e3 (Lw.vec n P j * Lw.mu n P j l)
  vms : ∀ l, 1 ≤ l → l < n → ∀ k, k ≤ l → SB e3 (sumTo (fun j => Lw.vec n P j * Lw.mu n P j l) k)
theorem sumI_pos {f : Nat → Int} : ∀ {n : Nat}, 1 ≤ n → (∀ i, i < n → 0 < f i) → 0 < sumI f n
  | 0, h, _ => by omega
  | 1, _, h => by
    simp only [sumI]
    have := h 0 (by omega)
    omega
  | n + 2, _, h => by
    have h1 := sumI_pos (f := f) (n := n + 1) (by omega) fun i hi => h i (by omega)
    have h2 := h (n + 1) (by omega)
    show 0 < sumI f (n + 1) + f (n + 1)
    omega
theorem sumI_sb {f : Nat → Int} {k e : Nat} (k7 : k ≤ 7) (h : ∀ i, i < k → (f i).natAbs < 2 ^ e) : (sumI f k).natAbs < 2 ^ (e + 3) := by
  have b1 : (sumI f k).natAbs ≤ k * 2 ^ e := sumI_bound fun i hi => by
    have := h i hi
    omega
  exact Nat.lt_of_le_of_lt b1 (two3 k7 e)
theorem sz_of {n b e1 e2 e3 : Nat} {P : Mat} {D : Nat → Int} {N : Nat → Nat → Int} (h : Irr n P) (F : RowF b n P D N) (n7 : n ≤ 7) (n1 : 1 ≤ n) (h1 : (n - 2) * (b + 7) + 2 * b + 8 ≤ e1) (h2 : (n - 1) * (b + 5) + b + 5 ≤ e2) (h3 : (n - 1) * (b + 5) + (n - 2) * (b + 5) + 2 * b + 11 ≤ e3) : Sz n e1 e2 e3 P := by
  obtain ⟨u, u1, u2⟩ := sh_int h F n7 n1
  have v0 := vec_zero n P n P
  have vs := (h.vpos n1).2
  have c57 : (n - 2) * (b + 5) ≤ (n - 2) * (b + 7) := Nat.mul_le_mul_left _ (by omega)
  have up0 := (u1 0 (by omega)).1
  have d0 := F.d 0 (by omega)
  have ub : ∀ j, j < n → (u j * D j).natAbs < 2 ^ ((n - 1) * (b + 5) + 1 + b) := fun j hj => mul_lt2 (u1 j hj).2 (F.d j hj).2
  have S0 : 0 < sumI (fun j => u j * D j) n := sumI_pos n1 fun j hj => Int.mul_pos (u1 j hj).1 (F.d j hj).1
  have ve : ∀ j, j < n → Lw.vec n P j = ((u j * D j : Int) : Rat) / ((u 0 * D 0 : Int) : Rat) := fun j hj => by
    have a1 := u2 j hj
    have a2 := u2 0 (by omega)
    have a3 : Lw.vec n P j = Lw.sh n P j / Lw.sh n P 0 := by
      unfold Lw.sh
      rw [v0]
      generalize sumTo (Lw.vec n P) n = s at *
      refine (q_div (fun e => ?_) ?_).symm
      · have : (1 : Rat) = (1 / s) * s := by grind
        rw [e] at this
        grind
      · grind
    rw [a3, a1, a2]
    have b1 := i_ne S0
    have b2 := i_ne (Int.mul_pos up0 d0.1)
    generalize ((sumI (fun j => u j * D j) n : Int) : Rat) = s at *
    generalize ((u 0 * D 0 : Int) : Rat) = x at *
    refine q_div (fun e => b2 ?_) ?_
    · have : x = (x / s) * s := by grind
      rw [this, e]
      grind
    · grind
  have key : ∀ l, 1 ≤ l → l < n → ∃ (G : Int) (A : Nat → Int), 0 < G ∧ G.natAbs < 2 ^ ((n - 1) * (b + 5) + (n - 2) * (b + 5) + 2 * b + 7) ∧ ∀ j, j < l → (A j).natAbs < 2 ^ ((n - 1) * (b + 5) + (n - 2) * (b + 5) + 2 * b + 7) ∧ Lw.vec n P j * Lw.mu n P j l = (A j : Rat) / (G : Rat) := fun l l1 l2 => by
    obtain ⟨Γ, A, g1, g2, g3⟩ := mu_col h F n7 l1 l2
    have c : (n - (l + 1)) * (b + 5) ≤ (n - 2) * (b + 5) := Nat.mul_le_mul_right _ (by omega)
    refine ⟨u 0 * D 0 * Γ, fun j => u j * A j * D l, Int.mul_pos (Int.mul_pos up0 d0.1) g1, up2 (mul_lt2 (ub 0 (by omega)) g2) (by omega), fun j hj => ?_⟩
    obtain ⟨a1, a2⟩ := g3 j hj
    refine ⟨up2 (mul_lt2 (mul_lt2 (u1 j (by omega)).2 a1) (F.d l l2).2) (by omega), ?_⟩
    rw [ve j (by omega), a2]
    have b1 := i_ne (F.d j (by omega)).1
    have b2 := i_ne g1
    have b3 := i_ne (Int.mul_pos up0 d0.1)
    simp only [Rat.intCast_mul] at b3 ⊢
    generalize (D j : Rat) = x at *
    generalize (Γ : Rat) = y at *
    generalize (u 0 : Rat) * (D 0 : Rat) = z at *
    grind
  refine ⟨h, n1, n7, fun m m2 mn i hi j hj => ?_, fun m m1 mn k hk => ?_, fun l l1 l2 j hj => ?_, fun i hi => ?_, fun i hi => ?_, fun k hk => ?_, fun l l1 l2 j hj => ?_, fun l l1 l2 k hk => ?_⟩
  · obtain ⟨Δ, A, d1, d2, d3⟩ := pm_col h F n7 (m := m) (by omega) mn hj
    have c : (n - m) * (b + 5) ≤ (n - 2) * (b + 5) := Nat.mul_le_mul_right _ (by omega)
    obtain ⟨a1, a2⟩ := d3 i hi
    obtain ⟨q1, q2⟩ := F.d i (by omega)
    exact ⟨A i, D i * Δ, Int.mul_pos q1 d1, up2 a1 (by omega), up2 (mul_lt2 q2 d2) (by omega), by rw [a2, Rat.intCast_mul]⟩
  · have c : (n - (m + 1)) * (b + 7) ≤ (n - 2) * (b + 7) := Nat.mul_le_mul_right _ (by omega)
    exact (pm_pre h F n7 (m := m + 1) (by omega) (by omega) (k := k) (by omega) (i := m) (by omega)).up (by omega)
  · obtain ⟨Γ, A, g1, g2, g3⟩ := mu_col h F n7 l1 l2
    have c : (n - (l + 1)) * (b + 5) ≤ (n - 2) * (b + 5) := Nat.mul_le_mul_right _ (by omega)
    obtain ⟨a1, a2⟩ := g3 j hj
    obtain ⟨q1, q2⟩ := F.d j (by omega)
    exact ⟨A j * D l, D j * Γ, Int.mul_pos q1 g1, up2 (mul_lt2 a1 (F.d l l2).2) (by omega), up2 (mul_lt2 q2 g2) (by omega), by rw [a2, Rat.intCast_mul, Rat.intCast_mul]⟩
  · exact ⟨u i * D i, u 0 * D 0, Int.mul_pos up0 d0.1, up2 (ub i hi) (by omega), up2 (ub 0 (by omega)) (by omega), ve i hi⟩
  · exact ⟨u i * D i, sumI (fun j => u j * D j) n, S0, up2 (ub i hi) (by omega), up2 (sumI_sb n7 ub) (by omega), u2 i hi⟩
  · refine ⟨sumI (fun j => u j * D j) k, u 0 * D 0, Int.mul_pos up0 d0.1, up2 (sumI_sb (by omega) fun i hi => ub i (by omega)) (by omega), up2 (ub 0 (by omega)) (by omega), ?_⟩
    rw [← sumI_cast]
    exact sumTo_congr fun j hj => ve j (by omega)
  · obtain ⟨G, A, g1, g2, g3⟩ := key l l1 l2
    obtain ⟨a1, a2⟩ := g3 j hj
    exact ⟨A j, G, g1, up2 a1 (by omega), up2 g2 (by omega), a2⟩
  · obtain ⟨G, A, g1, g2, g3⟩ := key l l1 l2
    refine ⟨sumI A k, G, g1, up2 (sumI_sb (by omega) fun i hi => (g3 i (by omega)).1) (by omega), up2 g2 (by omega), ?_⟩
    rw [← sumI_cast]
    exact sumTo_congr fun j hj => (g3 j (by omega)).2
end Lw

/-! SR: flows and the walk backwards, their sizes. -/
namespace Lw
theorem fl_sb {n b : Nat} {P : Mat} {D : Nat → Int} {N : Nat → Nat → Int} (h : Irr n P) (F : RowF b n P D N) (n7 : n ≤ 7) (n1 : 1 ≤ n) : (∀ i, i < n → ∀ j, j < n → SB (n * (b + 6)) (sh n P i * P i j)) ∧ ∀ a, a < n → ∀ k, k ≤ n → SB (n * (b + 6)) (sumTo (fun j => sh n P j * P j a) k) := by
  obtain ⟨u, u1, u2⟩ := sh_int h F n7 n1
  have S0 : 0 < sumI (fun j => u j * D j) n := sumI_pos n1 fun j hj => Int.mul_pos (u1 j hj).1 (F.d j hj).1
  have ub : ∀ j, j < n → (u j * D j).natAbs < 2 ^ ((n - 1) * (b + 5) + 1 + b) := fun j hj => mul_lt2 (u1 j hj).2 (F.d j hj).2
  have Ss := sumI_sb n7 ub
  have l : (n - 1) * (b + 5) + 1 + b + 3 ≤ n * (b + 6) := by
    obtain ⟨m, rfl⟩ : ∃ m, n = m + 1 := ⟨n - 1, by omega⟩
    rw [Nat.add_sub_cancel, Nat.add_mul, Nat.one_mul]
    have : m * (b + 5) ≤ m * (b + 6) := Nat.mul_le_mul_left _ (by omega)
    omega
  have e : ∀ i, i < n → ∀ j, j < n → sh n P i * P i j = ((u i * N i j : Int) : Rat) / ((sumI (fun j => u j * D j) n : Int) : Rat) := fun i hi j hj => by
    rw [u2 i hi, (F.n i hi j hj).2, Rat.intCast_mul, Rat.intCast_mul]
    have := i_ne (F.d i hi).1
    generalize (D i : Rat) = x at *
    grind
  refine ⟨fun i hi j hj => ⟨u i * N i j, _, S0, up2 (mul_lt2 (u1 i hi).2 (F.n i hi j hj).1) (by omega), up2 Ss (by omega), e i hi j hj⟩, fun a ha k hk => ⟨sumI (fun j => u j * N j a) k, _, S0, up2 (sumI_sb (by omega) fun j hj => mul_lt2 (u1 j (by omega)).2 (F.n j (by omega) a ha).1) (by omega), up2 Ss (by omega), ?_⟩⟩
  rw [← sumI_cast]
  exact sumTo_congr fun j hj => e j (by omega) a ha
theorem bk_row {n b : Nat} {P : Mat} {D : Nat → Int} {N : Nat → Nat → Int} (h : Irr n P) (F : RowF b n P D N) (n7 : n ≤ 7) (n1 : 1 ≤ n) : ∃ D' N', RowF ((n - 1) * (b + 5) + 1 + b) n (bk n P) D' N' := by
  obtain ⟨u, u1, u2⟩ := sh_int h F n7 n1
  have S0 : 0 < sumI (fun j => u j * D j) n := sumI_pos n1 fun j hj => Int.mul_pos (u1 j hj).1 (F.d j hj).1
  refine ⟨fun i => u i * D i, fun i j => u j * N j i, fun i hi => ⟨Int.mul_pos (u1 i hi).1 (F.d i hi).1, mul_lt2 (u1 i hi).2 (F.d i hi).2⟩, fun i hi j hj => ⟨mul_lt2 (u1 j hj).2 (F.n j hj i hi).1, ?_⟩⟩
  unfold bk
  rw [u2 i hi, u2 j hj, (F.n j hj i hi).2]
  have a1 := i_ne S0
  have a2 := i_ne (Int.mul_pos (u1 i hi).1 (F.d i hi).1)
  have a3 := i_ne (F.d j hj).1
  rw [Rat.intCast_mul (u j), Rat.intCast_mul (u j)]
  generalize ((u i * D i : Int) : Rat) = x at *
  generalize ((sumI (fun j => u j * D j) n : Int) : Rat) = s at *
  generalize (D j : Rat) = y at *
  refine q_div (fun e => a2 ?_) ?_
  · have : x = (x / s) * s := by grind
    rw [this, e]
    grind
  · grind
theorem Irr.bkrow {n : Nat} {P : Mat} (h : Irr n P) {i : Nat} (hi : i < n) : sumTo (bk n P i) n = 1 := by
  have e : sumTo (bk n P i) n = sumTo (fun j => (1 / sh n P i) * (sh n P j * P j i)) n := sumTo_congr fun j hj => by
    unfold bk
    rw [Rat.div_def, Rat.div_def]
    grind
  rw [e, sumTo_mul, h.shstat hi]
  have := h.shpos hi
  grind
theorem RQ.head {n : Nat} {P : Mat} {a b c : Nat} (hb : b < n) (p : 0 < P a b) (r : RQ n P b c) : RQ n P a c := by
  induction r with
  | refl => exact RQ.refl.step hb p
  | step _ h1 h2 ih => exact ih.step h1 h2
theorem Irr.bk {n : Nat} {P : Mat} (h : Irr n P) : Irr n (bk n P) := ⟨fun i hi j hj => by
    unfold Lw.bk
    refine div_nn (mul_nn ?_ (h.nn j hj i hi)) (h.shpos hi)
    have := h.shpos hj
    grind, fun i hi => h.bkrow hi, fun a ha b hb => by
    have r := h.con b hb a ha
    clear ha
    induction r with
    | refl => exact .refl
    | @step c d r1 hd p ih =>
      have hc := r1.lt hb
      refine RQ.head hc ?_ ih
      unfold Lw.bk
      exact div_ps (Rat.mul_pos (h.shpos hc) p) (h.shpos hd)⟩
theorem sh_bk {n : Nat} {P : Mat} (h : Irr n P) {i : Nat} (hi : i < n) : sh n (bk n P) i = sh n P i := by
  refine (h.bk.one (by omega) (x := sh n P) (h.shsum (by omega)) (fun i hi _ => ?_) i hi).symm
  rw [sumTo_congr (g := fun j => sh n P i * P i j) fun j hj => by
    unfold bk
    have := h.shpos hj
    generalize sh n P j = x at *
    grind, sumTo_mul, h.row i hi]
  grind
theorem bk_bk {n : Nat} {P : Mat} (h : Irr n P) {i j : Nat} (hi : i < n) (hj : j < n) : bk n (bk n P) i j = P i j := by
  show sh n (bk n P) j * bk n P j i / sh n (bk n P) i = _
  rw [sh_bk h hi, sh_bk h hj]
  unfold bk
  have h1 := h.shpos hi
  have h2 := h.shpos hj
  generalize sh n P j = x at *
  generalize sh n P i = y at *
  refine q_div (by grind) ?_
  grind
theorem Irr.congr' {n : Nat} {P M : Mat} (h : Irr n P) (e : ∀ i, i < n → ∀ j, j < n → P i j = M i j) : Irr n M := ⟨fun i hi j hj => by rw [← e i hi j hj]; exact h.nn i hi j hj, fun i hi => by rw [← h.row i hi]; exact (sumTo_congr fun j hj => e i hi j hj).symm, fun a ha b hb => by
  have r := h.con a ha b hb
  clear hb
  induction r with
  | refl => exact .refl
  | @step b c r1 hc p ih => exact ih.step hc (by rw [← e b (r1.lt ha) c hc]; exact p)⟩
theorem sh_congr {n : Nat} {P M : Mat} (h : Irr n P) (e : ∀ i, i < n → ∀ j, j < n → P i j = M i j) {i : Nat} (hi : i < n) : sh n P i = sh n M i := by
  refine (h.congr' e).one (by omega) (x := sh n P) (h.shsum (by omega)) (fun i hi _ => ?_) i hi
  rw [← h.shstat hi]
  exact sumTo_congr fun j hj => by rw [e j hj i hi]
theorem eqs_sc {n b : Nat} {P : Mat} {D : Nat → Int} {N : Nat → Nat → Int} (F : RowF b n P D N) (n1 : 1 ≤ n) : Sc (b + 1) 1 b n (n + 1) (eqs n P) (fun _ => 1) (fun j => if j < n then D j else 1) (fun i j => if j < n then (if i = 0 then D j else (if j = i then D j else 0) - N j i) else (if i = 0 then 1 else 0)) := by
  have b1 : 1 < 2 ^ b := by
    obtain ⟨h1, h2⟩ := F.d 0 (by omega)
    omega
  have b2 : (2 : Nat) ^ (b + 1) = 2 ^ b + 2 ^ b := by rw [Nat.pow_succ]; omega
  have one : ((1 : Int) : Rat) = 1 := rfl
  have zero : ((0 : Int) : Rat) = 0 := rfl
  refine ⟨fun i _ => ⟨by decide, by decide⟩, fun j hj => ?_, fun i hi j hj => ?_⟩
  · show 0 < (if j < n then D j else 1) ∧ (if j < n then D j else 1).natAbs < _
    split
    · exact F.d j ‹_›
    · exact ⟨by decide, b1⟩
  · show (if j < n then (if i = 0 then D j else (if j = i then D j else 0) - N j i) else (if i = 0 then 1 else 0)).natAbs < _ ∧ eqs n P i j * (((1 : Int) : Rat) * (((if j < n then D j else 1) : Int) : Rat)) = _
    unfold eqs
    rcases Nat.lt_or_ge j n with l | l
    · obtain ⟨d1, d2⟩ := F.d j l
      obtain ⟨a1, a2⟩ := F.n j l i hi
      have := i_ne d1
      simp only [if_pos l]
      by_cases e : i = 0
      · simp only [if_pos e]
        exact ⟨by omega, by rw [one]; grind⟩
      · simp only [if_neg e]
        refine ⟨by split <;> omega, ?_⟩
        rw [a2, Rat.intCast_sub, one]
        by_cases e2 : j = i
        · simp only [if_pos e2]
          generalize (D j : Rat) = x at *
          grind
        · simp only [if_neg e2]
          rw [zero]
          generalize (D j : Rat) = x at *
          grind
    · simp only [if_neg (show ¬ j < n by omega)]
      by_cases e : i = 0
      · simp only [if_pos e]
        exact ⟨by omega, by rw [one]; grind⟩
      · simp only [if_neg e]
        exact ⟨by omega, by rw [one, zero]; grind⟩
theorem eqs_sz {n b e : Nat} {P : Mat} {D : Nat → Int} {N : Nat → Nat → Int} (F : RowF b n P D N) (n1 : 1 ≤ n) (n7 : n ≤ 7) (he : n * (b + 5) + b + 5 ≤ e) : ∀ p σ A, p ≤ n → GK n (n + 1) p σ (eqs n P) A → ∀ i, i < n → ∀ j, j < n + 1 → SB e (A i j) := fun p σ A hp g i hi j hj => by
  have c : p * (b + 5) ≤ n * (b + 5) := Nat.mul_le_mul_right _ hp
  have c2 : p * (b + 1 + 4) = p * (b + 5) := by rw [show b + 1 + 4 = b + 5 by omega]
  exact g.sb (eqs_sc F n1) hp n7 (by omega) hi hj (by omega) (by omega)
theorem Irr.eqs_ns {n : Nat} {P : Mat} (h : Irr n P) (n1 : 1 ≤ n) : NS n (eqs n P) := fun y hy => by
  have y0 : sumTo y n = 0 := by
    have := hy 0 (by omega)
    rw [eqs_top] at this
    exact this
  have ys : ∀ i, i < n → i ≠ 0 → sumTo (fun j => y j * P j i) n = y i := fun i hi h0 => by
    have := hy i hi
    rw [eqs_row hi h0] at this
    grind
  have ys0 := stat_of h n1 ys
  exact stat_zero h n1 (h.vpos n1).1 (vec_stat n P h n1).2 (fun i hi => by
    by_cases e : i = 0
    · subst e
      exact ys0
    · exact ys i hi e) y0
theorem Irr.eqs_sh {n : Nat} {P : Mat} (h : Irr n P) (n1 : 1 ≤ n) {x : Nat → Rat} (hx : ∀ i, i < n → sumTo (fun j => eqs n P i j * x j) n = eqs n P i n) : ∀ i, i < n → x i = sh n P i := fun i hi => by
  have s1 := h.shsum n1
  have k := h.eqs_ns n1 (fun j => x j - sh n P j) (fun i hi => by
    have e : sumTo (fun j => eqs n P i j * (x j - sh n P j)) n = sumTo (fun j => eqs n P i j * x j) n - sumTo (fun j => eqs n P i j * sh n P j) n := by
      rw [← sumTo_sub]
      exact sumTo_congr fun j _ => by grind
    rw [e, hx i hi]
    have r : eqs n P i n = if i = 0 then 1 else 0 := if_neg (Nat.lt_irrefl _)
    rw [r]
    by_cases e : i = 0
    · subst e
      rw [eqs_top, s1, if_pos rfl]
      grind
    · rw [eqs_row hi e, h.shstat hi, if_neg e]
      grind) i hi
  grind
end Lw

/-! K20: odd and bent data. -/
namespace MI
open PySem
section
variable {f g : ME} {c : Call} {ρ : Env} {S : Sto}
theorem w_dct0 {Q : D → Sto → Prop} (q : Q (.dct []) S) : Ok (eDct0 c ρ) S Q := q
theorem w_dct1 {k : L2.Key} {Q : D → Sto → Prop} (q : Ok (f c ρ) S fun d S1 => Q (.dct [(k, d)]) S1) : Ok (eDct1 k f c ρ) S Q := by
  simp only [eDct1, ok_bind, ok_pure]
  exact q
theorem w_back {Q : D → Sto → Prop} (q : Ok (f c ρ) S fun d S1 => Ok (back d) S1 Q) : Ok (eBack f c ρ) S Q := by
  simp only [eBack, ok_bind]
  exact q
theorem s_back {xs : List D} {Q : D → Sto → Prop} (q : Q (.tup xs.reverse) S) : Ok (back (.tup xs)) S Q := s_opt rfl q
theorem s_items {d : D} {xs : List D} {Q : List D → Sto → Prop} (h : itemsO S d = some xs) (q : Q xs S) : Ok (items d) S Q := s_opt h q
theorem s_addT {xs ys : List D} {Q : D → Sto → Prop} (l : xs.length + ys.length ≤ 1000) (q : Q (.tup (xs ++ ys)) S) : Ok (addA (.tup xs) (.tup ys)) S Q := by
  show Ok (M.bind (chk (fits (xs.length + ys.length))) fun _ => M.pure (.tup (xs ++ ys))) S Q
  with_reducible refine s_bind ?_
  with_reducible refine s_chk ?_ ?_
  · exact decide_eq_true (by simp only [sizeLine]; omega)
  · exact q
theorem s_sliceT {xs : List D} {lo hi : Option Int} {Q : D → Sto → Prop} (q : Q (.tup (cut xs lo hi)) S) : Ok (slice (.tup xs) lo hi) S Q := s_opt rfl q
theorem s_pow30 {Q : D → Sto → Prop} (q : Q (.int (10 ^ 30)) S) : Ok (powD (.int 10) (.int 30)) S Q := by
  show Ok (M.bind (chk (decide ((0 : Int) ≤ 30 ∧ (30 : Int) ≤ 1000 ∧ (10 : Int).natAbs < 2 ^ 64))) fun _ => M.pure (.int ((10 : Int) ^ (30 : Int).toNat))) S Q
  exact s_bind (s_chk (by decide) q)
theorem s_str {i : Int} {Q : D → Sto → Prop} (h : i.natAbs < 2 ^ 600) (q : Q (.str (toString i)) S) : Ok (b1 strO [.int i]) S Q := by
  refine w_b1 ⟨_, ?_, q⟩
  show (if i.natAbs.log2 < 1920 then some (D.str (toString i)) else none) = _
  rw [if_pos]
  by_cases z : i.natAbs = 0
  · rw [z]; decide
  · have := (Nat.log2_lt z).mpr h
    omega
end
theorem cut_mem {α : Type} {xs : List α} {lo hi : Option Int} {x : α} (h : x ∈ cut xs lo hi) : x ∈ xs := List.mem_of_mem_drop (List.mem_of_mem_take h)
end MI
namespace Lw
open PySem MI
def topL : D → Nat
  | .tup xs => xs.length
  | .lst xs => xs.length
  | _ => 0
structure Good (d : D) : Prop where
  pu : pureD d = true
  sm : inD 600 d
  tl : topL d ≤ 61
theorem pureL_of : ∀ {xs : List D}, (∀ x ∈ xs, pureD x = true) → pureL xs = true
  | [], _ => rfl
  | x :: xs, h => by
    show (pureD x && pureL xs) = true
    rw [h x List.mem_cons_self, pureL_of fun z hz => h z (List.mem_cons_of_mem _ hz)]
    rfl
theorem Good.tup {xs : List D} (h : ∀ x ∈ xs, Good x) (l : xs.length ≤ 61) : Good (.tup xs) := ⟨pureL_of fun x hx => (h x hx).pu, inD_tup.mpr fun x hx => (h x hx).sm, l⟩
theorem Good.lst {xs : List D} (h : ∀ x ∈ xs, Good x) (l : xs.length ≤ 61) : Good (.lst xs) := ⟨pureL_of fun x hx => (h x hx).pu, inDs_iff.mpr fun x hx => (h x hx).sm, l⟩
theorem Good.int {i : Int} (h : i.natAbs < 2 ^ 600) : Good (.int i) := ⟨rfl, h, Nat.zero_le _⟩
theorem Good.bl (b : Bool) : Good (.bl b) := ⟨rfl, trivial, Nat.zero_le _⟩
theorem Good.str (x : Str) : Good (.str x) := ⟨rfl, trivial, Nat.zero_le _⟩
theorem Good.pd {n : Nat} {p : Int × Int} (h : fB n p) (l : n ≤ 600) : Good (Lw.pd p) := Good.tup (fun x hx => by
  rcases List.mem_cons.mp hx with e | hx
  · rw [e]; exact Good.int (small h.2.1 l)
  · rw [List.mem_singleton.mp hx]; exact Good.int (small h.2.2 l)) (by simp)
mutual
def inB (n : Nat) : D → Bool
  | .int i => decide (i.natAbs < 2 ^ n)
  | .tup xs => inBs n xs
  | .lst xs => inBs n xs
  | _ => true
def inBs (n : Nat) : List D → Bool
  | [] => true
  | x :: xs => inB n x && inBs n xs
end
mutual
theorem inB_D {n : Nat} : ∀ {d : D}, inB n d = true → inD n d
  | .int i, h => by
    have h : decide (i.natAbs < 2 ^ n) = true := h
    exact of_decide_eq_true (p := i.natAbs < 2 ^ n) h
  | .tup xs, h => inBs_D (xs := xs) h
  | .lst xs, h => inBs_D (xs := xs) h
  | .non, _ | .bl _, _ | .str _, _ | .dct _, _ | .loc _, _ | .scr _, _ => trivial
theorem inBs_D {n : Nat} : ∀ {xs : List D}, inBs n xs = true → inDs n xs
  | [], _ => trivial
  | x :: xs, h => by
    have h : (inB n x && inBs n xs) = true := h
    obtain ⟨h1, h2⟩ := Bool.and_eq_true_iff.mp h
    exact ⟨inB_D h1, inBs_D h2⟩
end
theorem good_all {xs : List D} (h1 : pureL xs = true) (h2 : (inBs 600 xs && xs.all fun x => decide (topL x ≤ 61)) = true) : ∀ x ∈ xs, Good x := fun x hx => by
  obtain ⟨h3, h4⟩ := Bool.and_eq_true_iff.mp h2
  exact ⟨pureL_mem h1 x hx, inDs_iff.mp (inBs_D h3) x hx, of_decide_eq_true (List.all_eq_true.mp h4 x hx)⟩
end Lw

/-! KH: a drawn walk as a matrix. -/
namespace Lw
open PySem MI
def ent (t : Tab) (i j : Nat) : Int × Int := ((t[i]?).bind fun r => r[j]?).getD (0, 1)
def matT (t : Tab) : Mat := fun i j => rq (ent t i j)
theorem ent_of {t : Tab} {i j : Nat} {r : List (Int × Int)} {p : Int × Int} (hr : t[i]? = some r) (hp : r[j]? = some p) : ent t i j = p := by
  unfold ent
  rw [hr]
  show (r[j]?).getD (0, 1) = p
  rw [hp]
  rfl
theorem ent_get {n : Nat} {t : Tab} (h : Sq n t) {i j : Nat} (hi : i < n) (hj : j < n) : ∃ r, t[i]? = some r ∧ r ∈ t ∧ r.length = n ∧ r[j]? = some (ent t i j) ∧ ent t i j ∈ r := by
  have h1 : i < t.length := by rw [h.1]; exact hi
  have hr : t[i]? = some t[i] := List.getElem?_eq_getElem h1
  have hm := List.getElem_mem h1
  have hl := h.2 _ hm
  have h2 : j < t[i].length := by rw [hl]; exact hj
  have hp : t[i][j]? = some t[i][j] := List.getElem?_eq_getElem h2
  have e := ent_of hr hp
  rw [← e] at hp
  exact ⟨t[i], hr, hm, hl, hp, List.mem_of_getElem? hp⟩
theorem sum_take (r : List (Int × Int)) : ∀ k, k ≤ r.length → sumTo (fun j => rq (r.getD j (0, 1))) k = ((r.take k).map rq).sum
  | 0, _ => by simp [sumTo]
  | k + 1, h => by
    have hk : k < r.length := by omega
    rw [List.take_succ, List.map_append, List.sum_append, ← sum_take r k (by omega)]
    have e : r[k]? = some r[k] := List.getElem?_eq_getElem hk
    simp only [sumTo]
    rw [e]
    simp [List.getD_eq_getElem?_getD, e]
    grind
theorem row_sum {n : Nat} {t : Tab} (h : Sq n t) {i : Nat} {r : List (Int × Int)} (hr : t[i]? = some r) : sumTo (matT t i) n = (r.map rq).sum := by
  have hl := h.2 r (List.mem_of_getElem? hr)
  have e := sum_take r r.length (Nat.le_refl _)
  rw [List.take_length] at e
  rw [← e, hl]
  refine sumTo_congr fun j hj => ?_
  unfold matT ent
  rw [hr]
  show rq ((r[j]?).getD (0, 1)) = _
  rw [List.getD_eq_getElem?_getD]
theorem rq_nn {p : Int × Int} (h : 0 < p.2) (h0 : 0 ≤ p.1) : 0 ≤ rq p := by
  rcases Int.lt_or_eq_of_le h0 with l | l
  · have := (rq_pos h).mpr l
    grind
  · unfold rq
    rw [← l, Rat.zero_divInt]
    exact Rat.le_refl
open Classical in
theorem whole_reach {n : Nat} {t : Tab} (h : wholeB n t = true) {i j : Nat} (hi : i < n) (hj : j < n) : Reach t i j := by
  have h1 := wholeB_iff.mp h i hi
  unfold wholeAt at h1
  exact of_decide_eq_true h1 j ⟨Int.natCast_nonneg _, by omega⟩
theorem reach_rq {n : Nat} {t : Tab} (h : TabOk n t) {i : Nat} (hi : i < n) {j : Int} (r : Reach t i j) : ∃ m : Nat, j = m ∧ m < n ∧ RQ n (matT t) i m := by
  induction r with
  | refl => exact ⟨i, rfl, hi, .refl⟩
  | @step j k r1 hk ih =>
    obtain ⟨m, e, hm, r2⟩ := ih
    subst e
    obtain ⟨k0, k1⟩ := succ_range h.sq hk
    obtain ⟨q, rfl⟩ : ∃ q : Nat, k = q := ⟨k.toNat, by omega⟩
    have hq : q < n := by omega
    obtain ⟨r, hr, hrm, hrl, hp, hpm⟩ := ent_get h.sq hm hq
    have h1 := (succ_mem h hr hp).mp hk
    exact ⟨q, rfl, hq, r2.step hq ((rq_pos (h.fr r hrm _ hpm).1.1).mpr h1)⟩
theorem irr_of {n : Nat} {t : Tab} (h : TabOk n t) (hs : sumsOk t = true) (hw : wholeB n t = true) : Irr n (matT t) := by
  refine ⟨fun i hi j hj => ?_, fun i hi => ?_, fun a ha b hb => ?_⟩
  · obtain ⟨r, hr, hrm, hrl, hp, hpm⟩ := ent_get h.sq hi hj
    have h1 := h.fr r hrm _ hpm
    exact rq_nn h1.1.1 h1.2
  · obtain ⟨r, hr, hrm, hrl, hp, hpm⟩ := ent_get h.sq hi hi
    rw [row_sum h.sq hr]
    have h1 := List.all_eq_true.mp hs r hrm
    have h2 : sumF r = (1, 1) := by
      have h3 := Bool.and_eq_true_iff.mp h1
      exact Prod.ext (by simpa using h3.1) (by simpa using h3.2)
    exact (sumF_one fun p hp => (h.fr r hrm p hp).1.1).mp h2
  · obtain ⟨m, e, hm, r⟩ := reach_rq h ha (whole_reach hw ha hb)
    have : b = m := by omega
    subst this
    exact r
theorem facts_of {n : Nat} {t : Tab} (h : Fine n t) (n5 : n ≤ 5) : ∃ D N, Facts n (matT t) D N := by
  have hc : ∀ i : Nat, ∃ d : Int, i < n → 0 < d ∧ d.natAbs < 2 ^ 23 ∧ ∀ j, j < n → ∃ a : Int, a.natAbs < 2 ^ 23 ∧ matT t i j = (a : Rat) / (d : Rat) := by
    intro i
    by_cases hi : i < n
    · obtain ⟨r, hr, hrm, hrl, _, _⟩ := ent_get h.ok.sq hi hi
      obtain ⟨d, d1, d2, d3⟩ := h.com r hrm
      refine ⟨d, fun _ => ⟨d1, d2, fun j hj => ?_⟩⟩
      obtain ⟨r2, hr2, _, _, hp, hpm⟩ := ent_get h.ok.sq hi hj
      rw [hr] at hr2
      cases hr2
      exact d3 _ hpm
    · exact ⟨0, fun h => (hi h).elim⟩
  obtain ⟨D, hD⟩ := Classical.skolem.mp hc
  have hN : ∀ i : Nat, ∃ f : Nat → Int, ∀ j, i < n → j < n → (f j).natAbs < 2 ^ 23 ∧ matT t i j = (f j : Rat) / (D i : Rat) := by
    intro i
    have : ∀ j : Nat, ∃ a : Int, i < n → j < n → a.natAbs < 2 ^ 23 ∧ matT t i j = (a : Rat) / (D i : Rat) := by
      intro j
      by_cases hi : i < n
      · by_cases hj : j < n
        · obtain ⟨a, a1, a2⟩ := (hD i hi).2.2 j hj
          exact ⟨a, fun _ _ => ⟨a1, a2⟩⟩
        · exact ⟨0, fun _ h => (hj h).elim⟩
      · exact ⟨0, fun h => (hi h).elim⟩
    exact Classical.skolem.mp this
  obtain ⟨N, hN⟩ := Classical.skolem.mp hN
  refine ⟨D, N, irr_of h.ok h.sums h.whole, fun i hi => ⟨(hD i hi).1, (hD i hi).2.1⟩, ⟨by decide, by decide, fun i hi j hj => (hN i j hi hj).1, fun i hi j hj => ?_⟩, h.ok.lo, n5⟩
  rw [(hN i j hi hj).2]
  have : ((1 : Int) : Rat) = 1 := rfl
  rw [this, Rat.div_def, Rat.div_def, Rat.mul_one]
end Lw

/-! KT: shares by leaving out places, as the law has them. -/
namespace MI
open PySem
theorem w_range3 {f g h : ME} {c : Call} {ρ : Env} {S : Sto} {Q : Src → Sto → Prop} (q : Ok (f c ρ) S fun d S1 => Ok (g c ρ) S1 fun e S2 => Ok (h c ρ) S2 fun k S3 => ∃ i j : Int, some d = some (.int i) ∧ some e = some (.int j) ∧ some k = some (.int (-1)) ∧ (inR i && inR j) = true ∧ Q (.fix (downL i (i - j).toNat)) S3) : Ok (iRange3 f g h c ρ) S Q := by
  simp only [iRange3, iB, ok_bind, aCons, aNil, ok_pure]
  refine q.mono fun d S1 q => q.mono fun e S2 q => q.mono fun k S3 ⟨i, j, e1, e2, e3, r, q2⟩ => ?_
  cases e1
  cases e2
  cases e3
  simp only [range3D, ok_bind, ok_chk, ok_pure]
  rw [Bool.and_eq_true] at r
  exact ⟨by rw [r.1, r.2]; rfl, q2⟩
theorem w_range2 {f g : ME} {c : Call} {ρ : Env} {S : Sto} {Q : Src → Sto → Prop} (q : Ok (f c ρ) S fun d S1 => Ok (g c ρ) S1 fun e S2 => ∃ i j : Int, some d = some (.int i) ∧ some e = some (.int j) ∧ (inR i && inR j) = true ∧ Q (.fix (rangeL i (j - i).toNat)) S2) : Ok (iRange2 f g c ρ) S Q := by
  simp only [iRange2, iB, ok_bind, aCons, aNil, ok_pure]
  refine q.mono fun d S1 q => q.mono fun e S2 ⟨i, j, e1, e2, r, q2⟩ => ?_
  cases e1
  cases e2
  simp only [range2D, ok_bind, ok_chk, ok_pure]
  exact ⟨r, q2⟩
end MI
namespace Lw
open PySem MI
theorem at_33 : Fs[33]? = some F__law_times := rfl
theorem at_40 : Fs[40]? = some F__law_shares := rfl
theorem ok_law_times {k n m : Nat} {x y : Int × Int} {S : Sto} {Q : D → Sto → Prop} (hx : fB n x) (hy : fB m y) (hnm : n + m < 8990) (q : Q (pd (timesF x y)) S) : Ok (callF Fs (k + 2) 33 [pd x, pd y]) S Q := by
  obtain ⟨x1, x2, x3⟩ := hx
  obtain ⟨y1, y2, y3⟩ := hy
  with_reducible refine s_call at_33 (by with_unfolding_all rfl) ?_
  unfold F__law_times pd
  dsimp only
  (repeat walk_at "mi")
  with_reducible refine s_mul (mulOk_of (small x2 (by omega)) (small y2 (by omega))) ?_
  (repeat walk_at "mi")
  with_reducible refine s_mul (mulOk_of (small x3 (by omega)) (small y3 (by omega))) ?_
  (repeat walk_at "mi")
  have h1 : (x.1 * y.1).natAbs < 2 ^ (n + m) := by rw [Int.natAbs_mul]; exact nat_mul_lt x2 y2
  have h2 : (x.2 * y.2).natAbs < 2 ^ (n + m) := by rw [Int.natAbs_mul]; exact nat_mul_lt x3 y3
  with_reducible refine ok_law_frac (Int.mul_pos x1 y1) (small h1 (by omega)) (small h2 (by omega)) ?_
  (repeat walk_at "mi")
  exact q
theorem timesF_size {n m : Nat} {x y : Int × Int} (hx : fB n x) (hy : fB m y) : fB (n + m) (timesF x y) := by
  refine low_size (Int.mul_pos hx.1 hy.1) ?_ ?_ (Nat.le_refl _)
  · rw [Int.natAbs_mul]; exact nat_mul_lt hx.2.1 hy.2.1
  · rw [Int.natAbs_mul]; exact nat_mul_lt hx.2.2 hy.2.2
theorem itemC {w : MO} {R : Sto} {i j : Nat} {xs : List D} {x : D} (h : R[i]? = some (.lst xs)) (hx : xs[j]? = some x) : itemO (w :: R) (.loc (i + 1)) (.int j) = some x := by
  rw [itemO_items (it_C h)]
  exact atI_nat hx
/-! rows of values -/
structure RV (n : Nat) (s : List (Int × Int)) (f : Nat → Rat) : Prop where
  len : s.length = n
  el : ∀ i, i < n → ∃ p, s[i]? = some p ∧ red p ∧ rq p = f i
theorem RV.set {n i : Nat} {s : List (Int × Int)} {f : Nat → Rat} {p : Int × Int} (h : RV n s f) (hp : red p) : RV n (s.set i p) fun k => if k = i then rq p else f k := by
  refine ⟨by rw [List.length_set]; exact h.1, fun k hk => ?_⟩
  by_cases e : k = i
  · subst e
    refine ⟨p, List.getElem?_set_self (by rw [h.1]; exact hk), hp, ?_⟩
    show rq p = if k = k then _ else _
    rw [if_pos rfl]
  · obtain ⟨q, h1, h2, h3⟩ := h.2 k hk
    refine ⟨q, by rw [List.getElem?_set_ne (Ne.symm e)]; exact h1, h2, ?_⟩
    show rq q = if k = i then _ else _
    rw [if_neg e]
    exact h3
theorem RV.congr {n : Nat} {s : List (Int × Int)} {f g : Nat → Rat} (h : RV n s f) (e : ∀ i, i < n → f i = g i) : RV n s g := ⟨h.1, fun i hi => by
  obtain ⟨p, h1, h2, h3⟩ := h.2 i hi
  exact ⟨p, h1, h2, by rw [h3, e i hi]⟩⟩
theorem RV.push {n : Nat} {s : List (Int × Int)} {f : Nat → Rat} {p : Int × Int} (h : RV n s f) (hp : red p) (e : rq p = f n) : RV (n + 1) (s ++ [p]) f := by
  refine ⟨by rw [List.length_append, h.1]; rfl, fun i hi => ?_⟩
  rcases Nat.lt_or_ge i n with l | l
  · obtain ⟨q, h1, h2, h3⟩ := h.2 i l
    exact ⟨q, by rw [List.getElem?_append_left (by rw [h.1]; exact l)]; exact h1, h2, h3⟩
  · have : i = n := by omega
    subst this
    refine ⟨p, ?_, hp, e⟩
    rw [List.getElem?_append_right (by rw [h.1]; exact Nat.le_refl _), h.1, Nat.sub_self]
    rfl
theorem RV.sum {n : Nat} {s : List (Int × Int)} {f : Nat → Rat} (h : RV n s f) : (∀ p ∈ s, red p) ∧ red (sumF s) ∧ rq (sumF s) = sumTo f n := by
  have hr : ∀ p ∈ s, red p := fun p hp => by
    obtain ⟨i, hi, e⟩ := List.getElem_of_mem hp
    obtain ⟨q, h1, h2, _⟩ := h.2 i (by rw [← h.1]; exact hi)
    rw [List.getElem?_eq_getElem hi, e] at h1
    cases h1
    exact h2
  have hp : ∀ p ∈ s, 0 < p.2 := fun p hp => (hr p hp).1
  refine ⟨hr, sumF_red hp, ?_⟩
  rw [sumF_q hp]
  have e := sum_take s s.length (Nat.le_refl _)
  rw [List.take_length] at e
  rw [← e, h.1]
  refine sumTo_congr fun i hi => ?_
  obtain ⟨q, h1, _, h3⟩ := h.2 i hi
  rw [List.getD_eq_getElem?_getD, h1, ← h3]
  rfl
theorem RV.fB {n b : Nat} {s : List (Int × Int)} {f : Nat → Rat} (h : RV n s f) (hs : ∀ i, i < n → SB b (f i)) : ∀ p ∈ s, fB b p := fun p hp => by
  obtain ⟨i, hi, e⟩ := List.getElem_of_mem hp
  obtain ⟨q, h1, h2, h3⟩ := h.2 i (by rw [← h.1]; exact hi)
  rw [List.getElem?_eq_getElem hi, e] at h1
  cases h1
  exact fB_of h2 (by rw [h3]; exact hs i (by rw [← h.1]; exact hi))
theorem RV.take {n m : Nat} {s : List (Int × Int)} {f : Nat → Rat} (h : RV n s f) (l : m ≤ n) : RV m (s.take m) f := by
  refine ⟨by rw [List.length_take, h.1]; omega, fun i hi => ?_⟩
  obtain ⟨p, h1, h2, h3⟩ := h.2 i (by omega)
  exact ⟨p, by rw [List.getElem?_take_of_lt hi]; exact h1, h2, h3⟩
/-- the rows' cells hold the values M -/
def TV (n B : Nat) (R : Sto) (M : Mat) : Prop := ∀ i, i < n → ∃ s, R[B + i]? = some (.lst (s.map pd)) ∧ RV n s (M i)
theorem TV.put {n B i : Nat} {R : Sto} {M : Mat} {s : List (Int × Int)} {f : Nat → Rat} (h : TV n B R M) (hi : i < n) (hs : RV n s f) : TV n B (R.set (B + i) (.lst (s.map pd))) fun k => if k = i then f else M k := by
  intro k hk
  by_cases e : k = i
  · subst e
    obtain ⟨u, h1, _⟩ := h k hk
    exact ⟨s, put_self h1, by show RV n s (if k = k then f else M k); rw [if_pos rfl]; exact hs⟩
  · obtain ⟨u, h1, h2⟩ := h k hk
    exact ⟨u, put_ne h1 (by omega), by show RV n u (if k = i then f else M k); rw [if_neg e]; exact h2⟩
theorem TV.congr {n B : Nat} {R : Sto} {M M' : Mat} (h : TV n B R M) (e : ∀ i, i < n → ∀ j, j < n → M i j = M' i j) : TV n B R M' := fun i hi => by
  obtain ⟨s, h1, h2⟩ := h i hi
  exact ⟨s, h1, h2.congr (e i hi)⟩
theorem TV.app {n B : Nat} {R X : Sto} {M : Mat} (h : TV n B R M) : TV n B (R ++ X) M := fun i hi => by
  obtain ⟨s, h1, h2⟩ := h i hi
  exact ⟨s, app_get h1, h2⟩
theorem TV.ne {n B j : Nat} {R : Sto} {M : Mat} {v : MO} (h : TV n B R M) (l : B + n ≤ j) : TV n B (R.set j v) M := fun i hi => by
  obtain ⟨s, h1, h2⟩ := h i hi
  exact ⟨s, put_ne h1 (by omega), h2⟩
theorem rows_get {B n i : Nat} (h : i < n) : (((List.range n).map fun i => D.loc (B + i + 1)))[i]? = some (.loc (B + i + 1)) := by
  rw [List.getElem?_map, List.getElem?_range h]
  rfl
theorem get_pd {r : List (Int × Int)} {i : Nat} {p : Int × Int} (h : r[i]? = some p) : (r.map pd)[i]? = some (pd p) := by rw [List.getElem?_map, h]; rfl
theorem RV.get {n i : Nat} {s : List (Int × Int)} {f : Nat → Rat} (h : RV n s f) (hi : i < n) : ∃ p, (s.map pd)[i]? = some (pd p) ∧ red p ∧ rq p = f i := by
  obtain ⟨p, h1, h2, h3⟩ := h.2 i hi
  exact ⟨p, get_pd h1, h2, h3⟩
end Lw

/-! KB: the program's fractions below 0 too, a row less so many times another one. -/
namespace MI
open PySem
theorem w_zip {f g : ME} {c : Call} {ρ : Env} {S : Sto} {Q : Src → Sto → Prop} (h : Ok (f c ρ) S fun d S1 => Ok (g c ρ) S1 fun e S2 => ∃ xs ys, stillO d = some xs ∧ stillO e = some ys ∧ Q (.fix (zipD xs ys)) S2) : Ok (iZip f g c ρ) S Q := by
  simp only [iZip, iB, ok_bind, aCons, aNil, ok_pure]
  refine h.mono fun d S1 h => h.mono fun e S2 ⟨xs, ys, e1, e2, q⟩ => ?_
  have key : Ok (zip2F d e) S2 Q := by
    simp only [zip2F, still, ok_bind, ok_ofO, ok_pure]
    exact ⟨xs, e1, ys, e2, q⟩
  cases d with
  | loc n => cases e1
  | _ => exact key
theorem ok_compZ {n : Nat} {ys : List D} {g : MG} {t : MT} {e : ME} {c : Call} {ρ : Env} (h : D → Option D) {S : Sto} {Q : List D → Sto → Prop} {xs : List D} (hi : litemsO S (.loc n) = some xs) (hl : xs.length = ys.length)
    (hx : ∀ x ∈ zipD xs ys, Ok (g c x ρ) S fun ρ2 S1 => Ok (t c ρ2) S1 fun b S2 => match b with
      | true => Ok (e c ρ2) S2 fun y S3 => h x = some y ∧ S3 = S
      | false => h x = none ∧ S2 = S) : ∀ (k i : Nat) (acc : List D), xs.length < k + i → i ≤ xs.length → acc.length + (xs.length - i) ≤ 1000 → Q (acc ++ ((zipD xs ys).drop i).filterMap h) S → Ok (compZ n ys g t e c ρ k i acc) S Q
  | 0, i, acc, l, _, _, _ => by omega
  | k + 1, i, acc, l, l2, l3, q => by
    rw [compZ, ok_bind]
    refine s_opt hi ?_
    have zl : (zipD xs ys).length = xs.length := by rw [zipD_length]; omega
    rcases Nat.lt_or_ge i xs.length with l4 | l4
    · have e1 : xs[i]? = some xs[i] := List.getElem?_eq_getElem l4
      have e3 : ys[i]? = some ys[i] := List.getElem?_eq_getElem (by omega)
      have e4 : (zipD xs ys)[i]? = some (zipD xs ys)[i] := List.getElem?_eq_getElem (by omega)
      obtain ⟨d1, d2, f1, f2, f3⟩ := zipD_get xs ys i _ e4
      rw [e1] at f1
      rw [e3] at f2
      cases f1
      cases f2
      have e2 : (zipD xs ys).drop i = (zipD xs ys)[i] :: (zipD xs ys).drop (i + 1) := List.drop_eq_getElem_cons (by omega)
      rw [e1, e3]
      rw [e2] at q
      have hm := hx _ (List.getElem_mem (by omega : i < (zipD xs ys).length))
      rw [f3] at hm q
      show Ok (M.bind (compTurn g t e c ρ (.tup [xs[i], ys[i]]) acc) _) S Q
      rw [ok_bind, compTurn, ok_calm, ok_bind]
      refine hm.mono fun ρ2 S1 h2 => ?_
      rw [ok_bind]
      refine h2.mono fun b S2 h3 => ?_
      cases b with
      | true =>
        show Ok (M.bind (e c ρ2) _) S2 _
        rw [ok_bind]
        refine Ok.mono h3 fun y S3 ⟨e1, e2⟩ => ?_
        rw [ok_bind, ok_chk, ok_pure]
        refine ⟨decide_eq_true (by simp only [sizeLine]; omega), ?_⟩
        subst e2
        refine ok_compZ h hi hl hx k (i + 1) _ (by omega) (by omega) (by simp; omega) ?_
        rw [List.filterMap_cons_some e1] at q
        simpa using q
      | false =>
        obtain ⟨e1, e2⟩ := h3
        show Ok (M.pure acc) S2 _
        rw [ok_pure, e2]
        refine ok_compZ h hi hl hx k (i + 1) _ (by omega) (by omega) (by omega) ?_
        rw [List.filterMap_cons_none e1] at q
        exact q
    · have e1 : xs[i]? = none := List.getElem?_eq_none l4
      have e2 : (zipD xs ys).drop i = [] := List.drop_eq_nil_of_le (by omega)
      rw [e1]
      rw [e2] at q
      show Ok (M.bind (chk (decide (i = min xs.length ys.length))) fun _ => M.pure acc) S Q
      exact s_bind (s_chk (decide_eq_true (by omega)) (s_pure (by simpa using q)))
/-- a comprehension over zip of two lists or tuples, the first one perhaps one that may be changed; the store stays -/
theorem w_compZ {f f2 : ME} {own : List Nat} {γ : MG} {t : MT} {e : ME} {c : Call} {ρ : Env} {S : Sto} {Q : List D → Sto → Prop} (h : D → Option D) (q : Ok (f c ρ) S fun d S1 => Ok (f2 c ρ) S1 fun d2 S2 => ∃ xs ys, itemsO S d = some xs ∧ stillO d2 = some ys ∧ xs.length = ys.length ∧ S2 = S ∧ xs.length < 1000 ∧
    (∀ x ∈ zipD xs ys, Ok (γ c x (wipeE ρ own)) S fun ρ2 S1 => Ok (t c ρ2) S1 fun b S2 => match b with
      | true => Ok (e c ρ2) S2 fun y S3 => h x = some y ∧ S3 = S
      | false => h x = none ∧ S2 = S) ∧ Q ((zipD xs ys).filterMap h) S) : Ok (lComp (iZip f f2) own γ t e c ρ) S Q := by
  simp only [lComp, iZip, iB, ok_bind, aCons, aNil, ok_pure]
  refine q.mono fun d S1 q => q.mono fun d2 S2 ⟨xs, ys, e1, e2, l0, e3, l, hx, qq⟩ => ?_
  subst e3
  clear q
  have zl : (zipD xs ys).length = xs.length := by rw [zipD_length]; omega
  have key : stillO d = some xs → Ok (zip2F d d2) S2 fun z S' => Ok (match z with
    | .fix xs => compFix γ t e c (wipeE ρ own) xs []
    | .live n => compLive n γ t e c (wipeE ρ own) turns 0 []
    | .zlive n ys => compZ n ys γ t e c (wipeE ρ own) turns 0 []) S' Q := fun e1 => by
    simp only [zip2F, still, ok_bind, ok_ofO, ok_pure]
    exact ⟨xs, e1, ys, e2, ok_compFix h _ [] S2 Q hx (by simp only [sizeLine]; simp; omega) (by simpa using qq)⟩
  cases d with
  | tup zs => cases e1; exact key rfl
  | lst zs => cases e1; exact key rfl
  | loc n =>
    show Ok (M.bind (litems (.loc n)) fun _ => M.bind (still d2) fun ys => M.pure (Src.zlive n ys)) S2 _
    refine s_bind (s_opt (a := xs) e1 (s_bind ?_))
    refine s_ofO e2 (s_pure ?_)
    exact ok_compZ h e1 l0 hx turns 0 [] (by simp only [turns]; omega) (Nat.zero_le _) (by simp; omega) (by simpa using qq)
  | _ => cases e1
end MI
namespace Lw
open PySem MI
theorem at_8 : Fs[8]? = some F_times := rfl
theorem at_7 : Fs[7]? = some F_minus := rfl
theorem at_9 : Fs[9]? = some F_over := rfl
theorem at_18 : Fs[18]? = some F_less_row := rfl
theorem ok_times {k n m : Nat} {x y : Int × Int} {S : Sto} {Q : D → Sto → Prop} (hx : fB n x) (hy : fB m y) (hnm : n + m < 8990) (q : Q (pd (timesF x y)) S) : Ok (callF Fs (k + 2) 8 [pd x, pd y]) S Q := by
  obtain ⟨x1, x2, x3⟩ := hx
  obtain ⟨y1, y2, y3⟩ := hy
  have h2 : (x.2 * y.2).natAbs < 2 ^ (n + m) := by rw [Int.natAbs_mul]; exact nat_mul_lt x3 y3
  with_reducible refine s_call at_8 (by with_unfolding_all rfl) ?_
  unfold F_times pd
  dsimp only
  (repeat walk_at "mi")
  with_reducible refine s_mul (mulOk_of (small x2 (by omega)) (small y2 (by omega))) ?_
  (repeat walk_at "mi")
  with_reducible refine s_mul (mulOk_of (small x3 (by omega)) (small y3 (by omega))) ?_
  (repeat walk_at "mi")
  with_reducible refine ok_ratio (Int.mul_pos x1 y1) (small h2 (by omega)) ?_
  (repeat walk_at "mi")
  exact q
/-- a fraction of any two whole numbers, the second one not 0 -/
def lowS (up down : Int) : Int × Int := if 0 < down then low up down else low (-up) (-down)
theorem ok_ratioS {k : Nat} {up down : Int} {S : Sto} {Q : D → Sto → Prop} (hd : down ≠ 0) (h2 : down.natAbs < 2 ^ 9000) (q : Q (pd (lowS up down)) S) : Ok (callF Fs (k + 1) 5 [.int up, .int down]) S Q := by
  with_reducible refine s_call at_5 (by with_unfolding_all rfl) ?_
  unfold F_ratio
  dsimp only
  (repeat walk_at "mi")
  have hp : 0 < Nat.gcd up.natAbs down.natAbs := Nat.gcd_pos_of_pos_right _ (by omega)
  have hle : Nat.gcd up.natAbs down.natAbs ≤ down.natAbs := Nat.gcd_le_right _ (by omega)
  have hlt : Nat.gcd up.natAbs down.natAbs < 2 ^ 9000 := Nat.lt_of_le_of_lt hle h2
  unfold lowS at q
  rcases (by omega : 0 < down ∨ ¬ 0 < down) with l | l
  · rw [decide_eq_true l]
    rw [if_pos l] at q
    have hdv : ∀ x : Int, divOk x ((Nat.gcd up.natAbs down.natAbs : Nat) : Int) = true := fun x => divOk_of (by omega) (by rw [Int.natAbs_natCast]; exact hlt)
    (repeat walk_at "mi")
    with_reducible refine s_div (hdv _) ?_
    (repeat walk_at "mi")
    with_reducible refine s_div (hdv _) ?_
    (repeat walk_at "mi")
    exact q
  · rw [decide_eq_false l]
    rw [if_neg l] at q
    have hdv : ∀ x : Int, divOk x (-((Nat.gcd up.natAbs down.natAbs : Nat) : Int)) = true := fun x => divOk_of (by omega) (by rw [Int.natAbs_neg, Int.natAbs_natCast]; exact hlt)
    have hf : ∀ x : Int, x.fdiv (-((Nat.gcd up.natAbs down.natAbs : Nat) : Int)) = (-x).fdiv ((Nat.gcd (-up).natAbs (-down).natAbs : Nat) : Int) := fun x => by
      rw [Int.natAbs_neg, Int.natAbs_neg]
      have := Int.neg_fdiv_neg (-x) ((Nat.gcd up.natAbs down.natAbs : Nat) : Int)
      rw [Int.neg_neg] at this
      exact this
    (repeat walk_at "mi")
    with_reducible refine s_div (hdv _) ?_
    (repeat walk_at "mi")
    with_reducible refine s_div (hdv _) ?_
    (repeat walk_at "mi")
    rw [hf, hf]
    exact q
theorem lowS_red {up down : Int} (hd : down ≠ 0) : red (lowS up down) := by
  unfold lowS
  split
  · rename_i h; exact low_red h
  · exact low_red (by omega)
theorem divInt_eq {a b : Int} (h : b ≠ 0) : Rat.divInt a b = (a : Rat) / (b : Rat) := rq_div (p := (a, b)) h
theorem lowS_q {up down : Int} (hd : down ≠ 0) : rq (lowS up down) = (up : Rat) / (down : Rat) := by
  unfold lowS
  split
  · rename_i h
    rw [low_q h]
    exact divInt_eq hd
  · rw [low_q (by omega), divInt_eq (by omega), Rat.intCast_neg, Rat.intCast_neg]
    have := rat_ne hd
    grind
def subF (x y : Int × Int) : Int × Int := low (x.1 * y.2 - y.1 * x.2) (x.2 * y.2)
theorem subF_red {x y : Int × Int} (hx : 0 < x.2) (hy : 0 < y.2) : red (subF x y) := low_red (Int.mul_pos hx hy)
theorem subF_q {x y : Int × Int} (hx : 0 < x.2) (hy : 0 < y.2) : rq (subF x y) = rq x - rq y := by
  unfold subF
  rw [low_q (Int.mul_pos hx hy), divInt_eq (Int.ne_of_gt (Int.mul_pos hx hy)), rq_div (by omega), rq_div (by omega), Rat.intCast_sub, Rat.intCast_mul, Rat.intCast_mul, Rat.intCast_mul]
  have h1 := rat_ne (a := x.2) (by omega)
  have h2 := rat_ne (a := y.2) (by omega)
  grind
def overS (x y : Int × Int) : Int × Int := lowS (x.1 * y.2) (x.2 * y.1)
theorem overS_red {x y : Int × Int} (hx : 0 < x.2) (hz : y.1 ≠ 0) : red (overS x y) := lowS_red (Int.mul_ne_zero (by omega) hz)
theorem overS_q {x y : Int × Int} (hx : 0 < x.2) (hy : 0 < y.2) (hz : y.1 ≠ 0) : rq (overS x y) = rq x / rq y := by
  unfold overS
  rw [lowS_q (Int.mul_ne_zero (by omega) hz), rq_div (by omega), rq_div (by omega), Rat.intCast_mul, Rat.intCast_mul]
  have h1 := rat_ne (a := x.2) (by omega)
  have h2 := rat_ne (a := y.2) (by omega)
  have h3 := rat_ne hz
  grind
theorem ok_minus {k n m : Nat} {x y : Int × Int} {S : Sto} {Q : D → Sto → Prop} (hx : fB n x) (hy : fB m y) (hnm : n + m < 9000) (q : Q (pd (subF x y)) S) : Ok (callF Fs (k + 2) 7 [pd x, pd y]) S Q := by
  obtain ⟨x1, x2, x3⟩ := hx
  obtain ⟨y1, y2, y3⟩ := hy
  have h2 : (x.2 * y.2).natAbs < 2 ^ (n + m) := by rw [Int.natAbs_mul]; exact nat_mul_lt x3 y3
  have hp := Int.mul_pos x1 y1
  with_reducible refine s_call at_7 (by with_unfolding_all rfl) ?_
  unfold F_minus pd
  dsimp only
  (repeat walk_at "mi")
  with_reducible refine s_mul (mulOk_of (small x2 (by omega)) (small y3 (by omega))) ?_
  (repeat walk_at "mi")
  with_reducible refine s_mul (mulOk_of (small y2 (by omega)) (small x3 (by omega))) ?_
  (repeat walk_at "mi")
  with_reducible refine s_mul (mulOk_of (small x3 (by omega)) (small y3 (by omega))) ?_
  (repeat walk_at "mi")
  with_reducible refine ok_ratioS (Int.ne_of_gt hp) (small h2 (by omega)) ?_
  (repeat walk_at "mi")
  unfold lowS
  rw [if_pos hp]
  exact q
theorem ok_over {k n m : Nat} {x y : Int × Int} {S : Sto} {Q : D → Sto → Prop} (hx : fB n x) (hy : fB m y) (hz : y.1 ≠ 0) (hnm : n + m < 9000) (q : Q (pd (overS x y)) S) : Ok (callF Fs (k + 2) 9 [pd x, pd y]) S Q := by
  obtain ⟨x1, x2, x3⟩ := hx
  obtain ⟨y1, y2, y3⟩ := hy
  have h2 : (x.2 * y.1).natAbs < 2 ^ (n + m) := by rw [Int.natAbs_mul]; exact nat_mul_lt x3 y2
  have hp := Int.mul_ne_zero (show x.2 ≠ 0 by omega) hz
  with_reducible refine s_call at_9 (by with_unfolding_all rfl) ?_
  unfold F_over pd
  dsimp only
  (repeat walk_at "mi")
  with_reducible refine s_mul (mulOk_of (small x2 (by omega)) (small y3 (by omega))) ?_
  (repeat walk_at "mi")
  with_reducible refine s_mul (mulOk_of (small x3 (by omega)) (small y2 (by omega))) ?_
  (repeat walk_at "mi")
  with_reducible refine ok_ratioS hp (small h2 (by omega)) ?_
  (repeat walk_at "mi")
  exact q
def lessL (b : Int × Int) : List (Int × Int) → List (Int × Int) → List (Int × Int)
  | x :: xs, y :: ys => subF x (timesF b y) :: lessL b xs ys
  | _, _ => []
def lessH (b : Int × Int) : D → Option D
  | .tup [x, y] => some (pd (subF (pairOf x) (timesF b (pairOf y))))
  | _ => none
theorem lessH_eq (b : Int × Int) : ∀ xs ys : List (Int × Int), (zipD (xs.map pd) (ys.map pd)).filterMap (lessH b) = (lessL b xs ys).map pd
  | [], _ => rfl
  | _ :: _, [] => rfl
  | x :: xs, y :: ys => by
    show (D.tup [pd x, pd y] :: zipD (xs.map pd) (ys.map pd)).filterMap (lessH b) = _
    rw [List.filterMap_cons_some (f := lessH b) (a := D.tup [pd x, pd y]) (b := pd (subF x (timesF b y))) rfl, lessH_eq b xs ys]
    rfl
theorem lessL_rv {n : Nat} {b : Int × Int} {row lead : List (Int × Int)} {f g : Nat → Rat} (hb : red b) (hr : RV n row f) (hl : RV n lead g) : RV n (lessL b row lead) fun j => f j - rq b * g j := by
  have key : ∀ (row lead : List (Int × Int)), row.length = lead.length → (lessL b row lead).length = row.length ∧ ∀ (i : Nat) (p q : Int × Int), row[i]? = some p → lead[i]? = some q → (lessL b row lead)[i]? = some (subF p (timesF b q)) := by
    intro row
    induction row with
    | nil => exact fun lead _ => ⟨by cases lead <;> rfl, fun i p q h => by simp at h⟩
    | cons x xs ih =>
      intro lead hl
      cases lead with
      | nil => simp at hl
      | cons y ys =>
        obtain ⟨h1, h2⟩ := ih ys (by simpa using hl)
        refine ⟨by show _ + 1 = _ + 1; rw [h1], fun i p q hp hq => ?_⟩
        cases i with
        | zero =>
          simp at hp hq
          subst hp hq
          rfl
        | succ i =>
          show (lessL b xs ys)[i]? = _
          exact h2 i p q (by simpa using hp) (by simpa using hq)
  obtain ⟨k1, k2⟩ := key row lead (by rw [hr.1, hl.1])
  refine ⟨by rw [k1, hr.1], fun i hi => ?_⟩
  obtain ⟨p, h1, h2, h3⟩ := hr.2 i hi
  obtain ⟨q, g1, g2, g3⟩ := hl.2 i hi
  have t2 := timesF_red hb.1 g2.1
  refine ⟨_, k2 i p q h1 g1, subF_red h2.1 t2.1, ?_⟩
  rw [subF_q h2.1 t2.1, timesF_q hb.1 g2.1, h3, g3]
theorem zipD_pds : ∀ (xs ys : List (Int × Int)), ∀ z ∈ zipD (xs.map pd) (ys.map pd), ∃ x y, z = .tup [pd x, pd y] ∧ x ∈ xs ∧ y ∈ ys
  | [], _, z, h => nomatch h
  | _ :: _, [], z, h => nomatch h
  | x :: xs, y :: ys, z, h => by
    rcases List.mem_cons.mp h with e | h
    · exact ⟨x, y, e, List.mem_cons_self .., List.mem_cons_self ..⟩
    · obtain ⟨a, b, h1, h2, h3⟩ := zipD_pds xs ys z h
      exact ⟨a, b, h1, List.mem_cons_of_mem _ h2, List.mem_cons_of_mem _ h3⟩
theorem ok_less_row {k n B : Nat} {row lead : List (Int × Int)} {b : Int × Int} {f g : Nat → Rat} {S : Sto} {Q : D → Sto → Prop} (hn : n ≤ 100) (hB : B ≤ 2990) (hr : RV n row f) (hl : RV n lead g) (rb : red b) (sb : fB B b) (sr : ∀ p ∈ row, fB B p) (sl : ∀ p ∈ lead, fB B p) (q : Q (.lst ((lessL b row lead).map pd)) S) : Ok (callF Fs (k + 3) 18 [.lst (row.map pd), .lst (lead.map pd), pd b]) S Q := by
  have ll : (zipD (row.map pd) (lead.map pd)).length ≤ 100 := by
    rw [zipD_length, List.length_map, hr.1]
    omega
  with_reducible refine s_call at_18 (by with_unfolding_all rfl) ?_
  unfold F_less_row
  dsimp only
  (repeat walk_at "mi")
  with_reducible refine w_comp (lessH b) (w_zip ?_)
  (repeat walk_at "mi")
  refine ⟨row.map pd, lead.map pd, rfl, rfl, _, rfl, rfl, by simp only [sizeLine]; omega, fun z hz => ?_, ?_⟩
  · obtain ⟨x, y, rfl, hx, hy⟩ := zipD_pds _ _ z hz
    with_reducible refine w_gtup2 ?_
    (repeat walk_at "mi")
    with_reducible refine ok_times sb (sl y hy) (by omega) ?_
    (repeat walk_at "mi")
    with_reducible refine ok_minus (sr x hx) (timesF_size sb (sl y hy)) (by omega) ?_
    (repeat walk_at "mi")
    exact ⟨rfl, rfl⟩
  · rw [lessH_eq]
    (repeat walk_at "mi")
    with_reducible refine s_fin ?_ ?_
    · exact pure_pds _
    · exact q
end Lw

/-! NA: sums by their partial sums; walks with whole numbers behind their rows. -/
namespace Lw
open PySem MI
theorem RV.mem {n : Nat} {s : List (Int × Int)} {f : Nat → Rat} (h : RV n s f) {p : Int × Int} (hp : p ∈ s) : ∃ i, i < n ∧ s[i]? = some p ∧ red p ∧ rq p = f i := by
  obtain ⟨i, hi, e⟩ := List.getElem_of_mem hp
  have hi2 : i < n := by rw [← h.1]; exact hi
  obtain ⟨q, h1, h2, h3⟩ := h.2 i hi2
  have h4 := h1
  rw [List.getElem?_eq_getElem hi, e] at h1
  cases h1
  exact ⟨i, hi2, h4, h2, h3⟩
theorem ok_law_totalS {k n e e' : Nat} {fs : List (Int × Int)} {f : Nat → Rat} {S : Sto} {Q : D → Sto → Prop} {d : D} (hd : itemsO S d = some (fs.map pd)) (v : RV n fs f) (n9 : n ≤ 900) (hb : ∀ i, i < n → SB e (f i)) (hs : ∀ k, k ≤ n → SB e' (sumTo f k)) (l : e + e' < 8990) (q : Q (pd (sumF fs)) S) : Ok (callF Fs (k + 3) 35 [d]) S Q := by
  with_reducible refine s_call at_35 (by with_unfolding_all rfl) ?_
  unfold F__law_total
  dsimp only
  (repeat walk_at "mi")
  with_reducible refine w_forI ?_
  (repeat walk_at "mi")
  refine ⟨fs.map pd, fun xs ρ S1 => S1 = S ∧ ∃ i acc o, xs = (fs.drop i).map pd ∧ i ≤ n ∧ ρ = [some d, some (pd acc), o] ∧ red acc ∧ rq acc = sumTo f i, hd, by rw [List.length_map, v.1]; omega, ⟨rfl, 0, (0, 1), none, rfl, Nat.zero_le _, rfl, red_zero, rq_zero⟩, fun r ρ S1 h => by rw [h.1]; exact hd, ?_, ?_⟩
  · intro x xs ρ S1 ⟨e1, i, acc, o, e2, li, e3, a1, a2⟩
    subst e1 e3
    have hi : i < fs.length := by
      rcases Nat.lt_or_ge i fs.length with l | l
      · exact l
      · rw [List.drop_eq_nil_of_le l] at e2
        cases e2
    have hi2 : i < n := by rw [← v.1]; exact hi
    obtain ⟨p, p1, p2, p3⟩ := v.2 i hi2
    have hp : fs[i] = p := by
      rw [List.getElem?_eq_getElem hi] at p1
      exact Option.some.inj p1
    rw [List.drop_eq_getElem_cons hi, hp] at e2
    obtain ⟨rfl, rfl⟩ := List.cons.inj e2
    (repeat walk_at "mi")
    with_reducible refine ok_law_plus (fB_of a1 (by rw [a2]; exact hs i li)) (fB_of p2 (by rw [p3]; exact hb i hi2)) (by omega) ?_
    (repeat walk_at "mi")
    exact ⟨rfl, i + 1, addF acc p, _, rfl, hi2, rfl, addF_red a1.1 p2.1, by rw [addF_q a1.1 p2.1, a2, p3]; rfl⟩
  · intro ρ S1 ⟨e1, i, acc, o, e2, li, e3, a1, a2⟩
    subst e1 e3
    have hi : i = n := by
      rcases Nat.lt_or_ge i fs.length with l | l
      · rw [List.drop_eq_getElem_cons l] at e2
        cases e2
      · rw [v.1] at l
        omega
    subst hi
    have : acc = sumF fs := rq_inj a1 v.sum.2.1 (by rw [a2, v.sum.2.2])
    subst this
    (repeat walk_at "mi")
    exact q
theorem ok_totalS {k n e e' : Nat} {fs : List (Int × Int)} {f : Nat → Rat} {S : Sto} {Q : D → Sto → Prop} {d : D} (hd : itemsO S d = some (fs.map pd)) (v : RV n fs f) (n9 : n ≤ 900) (hb : ∀ i, i < n → SB e (f i)) (hs : ∀ k, k ≤ n → SB e' (sumTo f k)) (l : e + e' < 8990) (q : Q (pd (sumF fs)) S) : Ok (callF Fs (k + 3) 10 [d]) S Q := by
  with_reducible refine s_call at_10 (by with_unfolding_all rfl) ?_
  unfold F_total
  dsimp only
  (repeat walk_at "mi")
  with_reducible refine w_forI ?_
  (repeat walk_at "mi")
  refine ⟨fs.map pd, fun xs ρ S1 => S1 = S ∧ ∃ i acc o, xs = (fs.drop i).map pd ∧ i ≤ n ∧ ρ = [some d, some (pd acc), o] ∧ red acc ∧ rq acc = sumTo f i, hd, by rw [List.length_map, v.1]; omega, ⟨rfl, 0, (0, 1), none, rfl, Nat.zero_le _, rfl, red_zero, rq_zero⟩, fun r ρ S1 h => by rw [h.1]; exact hd, ?_, ?_⟩
  · intro x xs ρ S1 ⟨e1, i, acc, o, e2, li, e3, a1, a2⟩
    subst e1 e3
    have hi : i < fs.length := by
      rcases Nat.lt_or_ge i fs.length with l | l
      · exact l
      · rw [List.drop_eq_nil_of_le l] at e2
        cases e2
    have hi2 : i < n := by rw [← v.1]; exact hi
    obtain ⟨p, p1, p2, p3⟩ := v.2 i hi2
    have hp : fs[i] = p := by
      rw [List.getElem?_eq_getElem hi] at p1
      exact Option.some.inj p1
    rw [List.drop_eq_getElem_cons hi, hp] at e2
    obtain ⟨rfl, rfl⟩ := List.cons.inj e2
    (repeat walk_at "mi")
    with_reducible refine ok_plus (fB_of a1 (by rw [a2]; exact hs i li)) (fB_of p2 (by rw [p3]; exact hb i hi2)) (by omega) ?_
    (repeat walk_at "mi")
    exact ⟨rfl, i + 1, addF acc p, _, rfl, hi2, rfl, addF_red a1.1 p2.1, by rw [addF_q a1.1 p2.1, a2, p3]; rfl⟩
  · intro ρ S1 ⟨e1, i, acc, o, e2, li, e3, a1, a2⟩
    subst e1 e3
    have hi : i = n := by
      rcases Nat.lt_or_ge i fs.length with l | l
      · rw [List.drop_eq_getElem_cons l] at e2
        cases e2
      · rw [v.1] at l
        omega
    subst hi
    have : acc = sumF fs := rq_inj a1 v.sum.2.1 (by rw [a2, v.sum.2.2])
    subst this
    (repeat walk_at "mi")
    exact q
theorem ok_law_over_sumS {k n e e' : Nat} {fs : List (Int × Int)} {f : Nat → Rat} {S : Sto} {Q : D → Sto → Prop} {d : D} (hd : itemsO S d = some (fs.map pd)) (v : RV n fs f) (n9 : n ≤ 900) (hb : ∀ i, i < n → SB e (f i)) (hs : ∀ k, k ≤ n → SB e' (sumTo f k)) (l : e + e' < 8990) (h0 : 0 < sumTo f n) (q : ∀ us, RV n us (fun i => f i / sumTo f n) → Q (rowD us) S) : Ok (callF Fs (k + 4) 36 [d]) S Q := by
  with_reducible refine s_call at_36 (by with_unfolding_all rfl) ?_
  unfold F__law_over_sum
  dsimp only
  (repeat walk_at "mi")
  with_reducible refine ok_law_totalS hd v n9 hb hs l ?_
  (repeat walk_at "mi")
  have sr := v.sum.2.1
  have sq := v.sum.2.2
  have s0 : 0 < (sumF fs).1 := (rq_pos sr.1).mp (by rw [sq]; exact h0)
  with_reducible refine w_compI (overH (sumF fs)) ?_
  (repeat walk_at "mi")
  refine ⟨fs.map pd, hd, rfl, by rw [List.length_map, v.1]; omega, fun x hx => ?_, ?_⟩
  · obtain ⟨p, hp, rfl⟩ := List.mem_map.mp hx
    obtain ⟨i, i1, i2, i3, i4⟩ := v.mem hp
    (repeat walk_at "mi")
    with_reducible refine ok_law_over (fB_of i3 (by rw [i4]; exact hb i i1)) (fB_of sr (by rw [sq]; exact hs n (Nat.le_refl _))) s0 (by omega) ?_
    exact ⟨rfl, rfl⟩
  · have e2 : (fs.map pd).filterMap (overH (sumF fs)) = (fs.map fun p => overF p (sumF fs)).map pd := by
      rw [List.filterMap_map, List.map_map, ← List.filterMap_eq_map]
      rfl
    rw [e2]
    (repeat walk_at "mi")
    with_reducible refine s_fin ?_ ?_
    · exact pure_pds _
    · refine q _ ⟨by rw [List.length_map]; exact v.1, fun j hj => ?_⟩
      obtain ⟨p, h1, h2, h3⟩ := v.2 j hj
      refine ⟨overF p (sumF fs), by rw [List.getElem?_map, h1]; rfl, overF_red h2.1 s0, ?_⟩
      rw [overF_q h2.1 sr.1 s0, h3, sq]
theorem RowF.congr {b n : Nat} {P M : Mat} {D : Nat → Int} {N : Nat → Nat → Int} (h : RowF b n P D N) (e : ∀ i, i < n → ∀ j, j < n → P i j = M i j) : RowF b n M D N := ⟨h.d, fun i hi j hj => ⟨(h.n i hi j hj).1, by rw [← e i hi j hj]; exact (h.n i hi j hj).2⟩⟩
theorem RowF.sb {b n : Nat} {P : Mat} {D : Nat → Int} {N : Nat → Nat → Int} (h : RowF b n P D N) {i j : Nat} (hi : i < n) (hj : j < n) : SB b (P i j) := ⟨N i j, D i, (h.d i hi).1, (h.n i hi j hj).1, (h.d i hi).2, (h.n i hi j hj).2⟩
theorem RowF.pre {b n : Nat} {P : Mat} {D : Nat → Int} {N : Nat → Nat → Int} (h : RowF b n P D N) (n7 : n ≤ 7) {i k : Nat} (hi : i < n) (hk : k ≤ n) : SB (b + 3) (sumTo (P i) k) := by
  refine ⟨sumI (N i) k, D i, (h.d i hi).1, sumI_sb (by omega) fun j hj => (h.n i hi j (by omega)).1, up2 (h.d i hi).2 (by omega), ?_⟩
  rw [← sumI_cast]
  exact sumTo_congr fun j hj => (h.n i hi j (by omega)).2
theorem isWalk_of {n : Nat} {t : Tab} (ok : TabOk n t) (h : Irr n (matT t)) : isWalk (tabD t) = true := by
  have sums : sumsOk t = true := List.all_eq_true.mpr fun r hr => by
    obtain ⟨i, hi, e⟩ := List.getElem_of_mem hr
    have hi2 : i < n := by rw [← ok.sq.1]; exact hi
    have e1 : t[i]? = some r := by rw [List.getElem?_eq_getElem hi, e]
    have e2 : sumF r = (1, 1) := (sumF_one fun p hp => (ok.fr r hr p hp).1.1).mpr (by rw [← row_sum ok.sq e1]; exact h.row i hi2)
    rw [e2]
    rfl
  have whole : wholeB n t = true := wholeB_iff.mpr fun i hi => wholeAt_true fun j hj => by
    obtain ⟨j, rfl⟩ : ∃ m : Nat, j = m := ⟨j.toNat, by have := hj.1; omega⟩
    have hj2 : j < n := by have := hj.2; omega
    have r := h.con i hi j hj2
    clear hj hj2
    induction r with
    | refl => exact .refl
    | @step b c r1 hc p ih =>
      have hb := r1.lt hi
      refine ih.step ?_
      obtain ⟨r, hr, hrm, hrl, hp, hpm⟩ := ent_get ok.sq hb hc
      exact (succ_mem ok hr hp).mpr ((rq_pos (ok.fr r hrm _ hpm).1.1).mp p)
  unfold isWalk
  rw [tab_to ok, tabOf_tab, sums, ok.sq.1, whole]
  rfl
/-- a walk's table, whole numbers of b bits behind each row -/
structure Wk (n b : Nat) (t : Tab) : Prop where
  ok : TabOk n t
  irr : Irr n (matT t)
  row : ∃ D N, RowF b n (matT t) D N
  bn : n ≤ 5 ∧ b ≤ 464 ∨ n ≤ 6 ∧ b ≤ 380
theorem Wk.sz {n b : Nat} {t : Tab} (h : Wk n b t) : Sz n 2400 (n * (b + 6)) 4300 (matT t) := by
  obtain ⟨D, N, F⟩ := h.row
  have n1 := h.ok.lo
  have hb := h.bn
  have n6 : n = 1 ∨ n = 2 ∨ n = 3 ∨ n = 4 ∨ n = 5 ∨ n = 6 := by omega
  refine sz_of h.irr F (by omega) n1 ?_ ?_ ?_
  · rcases n6 with e | e | e | e | e | e <;> subst e <;> omega
  · rcases n6 with e | e | e | e | e | e <;> subst e <;> omega
  · rcases n6 with e | e | e | e | e | e <;> subst e <;> omega
theorem Wk.hi {n b : Nat} {t : Tab} (h : Wk n b t) : n ≤ 6 := by have := h.bn; omega
theorem Wk.e2 {n b : Nat} {t : Tab} (h : Wk n b t) : n * (b + 6) ≤ 2400 := by
  have n1 := h.ok.lo
  have hb := h.bn
  have n6 : n = 1 ∨ n = 2 ∨ n = 3 ∨ n = 4 ∨ n = 5 ∨ n = 6 := by omega
  rcases n6 with e | e | e | e | e | e <;> subst e <;> omega
theorem Wk.isW {n b : Nat} {t : Tab} (h : Wk n b t) : isWalk (tabD t) = true := isWalk_of h.ok h.irr
theorem Wk.sb {n b : Nat} {t : Tab} (h : Wk n b t) {i j : Nat} (hi : i < n) (hj : j < n) : SB b (matT t i j) := by
  obtain ⟨D, N, F⟩ := h.row
  exact F.sb hi hj
theorem Wk.ent {n b : Nat} {t : Tab} (h : Wk n b t) {i j : Nat} (hi : i < n) (hj : j < n) : fB b (ent t i j) := by
  obtain ⟨r, hr, hrm, hrl, hp, hpm⟩ := ent_get h.ok.sq hi hj
  exact fB_of (h.ok.fr r hrm _ hpm).1 (h.sb hi hj)
theorem Wk.fB {n b : Nat} {t : Tab} (h : Wk n b t) : ∀ r ∈ t, ∀ p ∈ r, fB b p := fun r hr p hp => by
  obtain ⟨i, hi, e⟩ := List.getElem_of_mem hr
  have hi2 : i < n := by rw [← h.ok.sq.1]; exact hi
  have l := h.ok.sq.2 r hr
  obtain ⟨j, hj, e2⟩ := List.getElem_of_mem hp
  have e1 : t[i]? = some r := by rw [List.getElem?_eq_getElem hi, e]
  have e3 : r[j]? = some p := by rw [List.getElem?_eq_getElem hj, e2]
  have := h.ent hi2 (j := j) (by omega)
  rwa [ent_of e1 e3] at this
theorem Wk.good {n b : Nat} {t : Tab} (h : Wk n b t) : Good (tabD t) := Good.tup (fun x hx => by
    obtain ⟨r, hr, rfl⟩ := List.mem_map.mp hx
    refine Good.tup (fun y hy => ?_) (by rw [List.length_map, h.ok.sq.2 r hr]; have := h.hi; omega)
    obtain ⟨p, hp, rfl⟩ := List.mem_map.mp hy
    exact Good.pd (h.fB r hr p hp) (by have := h.bn; omega)) (by rw [List.length_map, h.ok.sq.1]; have := h.hi; omega)
theorem Fine.wk {n : Nat} {t : Tab} (h : Fine n t) (n5 : n ≤ 6) : Wk n 23 t := by
  have hc : ∀ i : Nat, ∃ d : Int, i < n → 0 < d ∧ d.natAbs < 2 ^ 23 ∧ ∀ j, j < n → ∃ a : Int, a.natAbs < 2 ^ 23 ∧ matT t i j = (a : Rat) / (d : Rat) := by
    intro i
    by_cases hi : i < n
    · obtain ⟨r, hr, hrm, hrl, _, _⟩ := ent_get h.ok.sq hi hi
      obtain ⟨d, d1, d2, d3⟩ := h.com r hrm
      refine ⟨d, fun _ => ⟨d1, d2, fun j hj => ?_⟩⟩
      obtain ⟨r2, hr2, _, _, hp, hpm⟩ := ent_get h.ok.sq hi hj
      rw [hr] at hr2
      cases hr2
      exact d3 _ hpm
    · exact ⟨0, fun h => (hi h).elim⟩
  obtain ⟨D, hD⟩ := Classical.skolem.mp hc
  have hN : ∀ i : Nat, ∃ f : Nat → Int, ∀ j, i < n → j < n → (f j).natAbs < 2 ^ 23 ∧ matT t i j = (f j : Rat) / (D i : Rat) := by
    intro i
    have : ∀ j : Nat, ∃ a : Int, i < n → j < n → a.natAbs < 2 ^ 23 ∧ matT t i j = (a : Rat) / (D i : Rat) := by
      intro j
      by_cases hi : i < n
      · by_cases hj : j < n
        · obtain ⟨a, a1, a2⟩ := (hD i hi).2.2 j hj
          exact ⟨a, fun _ _ => ⟨a1, a2⟩⟩
        · exact ⟨0, fun _ h => (hj h).elim⟩
      · exact ⟨0, fun h => (hi h).elim⟩
    exact Classical.skolem.mp this
  obtain ⟨N, hN⟩ := Classical.skolem.mp hN
  exact ⟨h.ok, irr_of h.ok h.sums h.whole, ⟨D, N, fun i hi => ⟨(hD i hi).1, (hD i hi).2.1⟩, fun i hi j hj => hN i j hi hj⟩, by omega⟩
theorem rv_eq {n : Nat} {s u : List (Int × Int)} {f : Nat → Rat} (h : RV n s f) (g : RV n u f) : s = u := by
  refine List.ext_getElem? fun i => ?_
  rcases Nat.lt_or_ge i n with l | l
  · obtain ⟨p, p1, p2, p3⟩ := h.2 i l
    obtain ⟨q, q1, q2, q3⟩ := g.2 i l
    rw [p1, q1, rq_inj p2 q2 (by rw [p3, q3])]
  · rw [List.getElem?_eq_none (by rw [h.1]; exact l), List.getElem?_eq_none (by rw [g.1]; exact l)]
theorem RowF.up {b c n : Nat} {P : Mat} {D : Nat → Int} {N : Nat → Nat → Int} (h : RowF b n P D N) (l : b ≤ c) : RowF c n P D N := ⟨fun i hi => ⟨(h.d i hi).1, up2 (h.d i hi).2 l⟩, fun i hi j hj => ⟨up2 (h.n i hi j hj).1 l, (h.n i hi j hj).2⟩⟩
end Lw

/-! KU: shares by leaving out places, as the law has them. -/
namespace Lw
open PySem MI
def locsD (B n : Nat) : List D := (List.range n).map fun i => .loc (B + i + 1)
theorem locsD_succ (B n : Nat) : locsD B n ++ [.loc (B + n + 1)] = locsD B (n + 1) := by
  unfold locsD
  rw [List.range_succ, List.map_append]
  rfl
theorem locsD_get {B n i : Nat} (h : i < n) : (locsD B n)[i]? = some (.loc (B + i + 1)) := rows_get h
theorem cut_take {α : Type} (xs : List α) (k : Nat) : cut xs none (some (k : Int)) = xs.take k := by
  unfold cut
  rw [HT.sIx_none, HT.sIx_nat]
  show (xs.drop 0).take (min k xs.length - 0) = _
  rw [List.drop_zero, Nat.sub_zero]
  rcases Nat.le_total k xs.length with l | l
  · rw [Nat.min_eq_left l]
  · rw [Nat.min_eq_right l, List.take_length, List.take_of_length_le l]
theorem downL_succ {k : Nat} {x : D} {xs : List D} (h : x :: xs = downL (k : Int) k) : ∃ m, k = m + 1 ∧ x = natD (m + 1) ∧ xs = downL (m : Int) m := by
  cases k with
  | zero => cases h
  | succ m =>
    obtain ⟨h1, h2⟩ := List.cons.inj h
    refine ⟨m, rfl, h1, ?_⟩
    rw [h2]
    congr 1
    omega
theorem downL_nil {k : Nat} (h : ([] : List D) = downL (k : Int) k) : k = 0 := by
  cases k with
  | zero => rfl
  | succ m => cases h
theorem TV.of {n B : Nat} {R : Sto} {t : Tab} (ht : TabOk n t) (h : ∀ j, j < n → ∃ r, t[j]? = some r ∧ R[B + j]? = some (.lst (r.map pd))) : TV n B R (matT t) := by
  intro i hi
  obtain ⟨r, hr, hc⟩ := h i hi
  refine ⟨r, hc, ht.sq.2 r (List.mem_of_getElem? hr), fun j hj => ?_⟩
  obtain ⟨r2, hr2, hrm, _, hp, hpm⟩ := ent_get ht.sq hi hj
  rw [hr] at hr2
  cases hr2
  exact ⟨_, hp, (ht.fr r hrm _ hpm).1, rfl⟩
/-- before the state m is left out: what the cells hold -/
structure SV (n m B : Nat) (P : Mat) (R : Sto) (M : Mat) : Prop where
  tv : TV n B R M
  lo : ∀ j, j < m → ∀ i, i < m → M j i = PM n P m j i
  hi : ∀ i, m ≤ i → i < n → ∀ j, j < i → M j i = mu n P j i
/-- one row as the inner loop goes on -/
def rowT (P : Mat) (n l t : Nat) (M : Mat) (h i : Nat) : Rat := if i < t then M h i + mu n P h l * M l i else if i = l then mu n P h l else M h i
theorem PM_row {n l : Nat} {P : Mat} (hl : l < n) {h i : Nat} (hh : h < l) (hi : i < l) {M : Mat} (lo : ∀ j, j < l + 1 → ∀ i, i < l + 1 → M j i = PM n P (l + 1) j i) : M h i + mu n P h l * M l i = PM n P l h i := by
  rw [PM_step n P l hl, lo h (by omega) i (by omega), lo l (by omega) i (by omega)]
  rfl
def natF (f : Nat → Int × Int) : D → Option D
  | .int j => some (pd (f j.toNat))
  | _ => none
theorem ok_law_shares {k n : Nat} {t : Tab} {w : MO} {R : Sto} {Q : D → Sto → Prop} {b : Nat} (W : Wk n b t) (q : ∀ ss : List (Int × Int), RV n ss (sh n (matT t)) → Q (rowD ss) (w :: R)) : Ok (callF Fs (k + 5) 40 [tabD t]) (w :: R) Q := by
  have ht := W.ok
  have Z := W.sz
  have e2l := W.e2
  have hl : ((t.map rowD).length : Int) = n := by rw [List.length_map, ht.sq.1]
  have tl : t.length = n := ht.sq.1
  have n1 := Z.lo
  have n5 := W.hi
  generalize n * (b + 6) = eb at Z e2l
  generalize hP : matT t = P at Z q
  with_reducible refine s_call at_40 (by with_unfolding_all rfl) ?_
  unfold F__law_shares
  dsimp only
  (repeat walk_at "mi")
  rw [hl]
  with_reducible refine w_compFI (w_iseq ?_)
  (repeat walk_at "mi")
  refine ⟨t.map rowD, fun xs acc S1 => ∃ (i : Nat) (R' : Sto), xs = (t.drop i).map rowD ∧ i ≤ n ∧ acc = locsD R.length i ∧ S1 = w :: R' ∧ R'.length = R.length + i ∧ R'.take R.length = R ∧ ∀ j, j < i → ∃ r, t[j]? = some r ∧ R'[R.length + j]? = some (.lst (r.map pd)), rfl, ⟨0, R, rfl, Nat.zero_le _, rfl, rfl, rfl, List.take_length, fun j hj => by omega⟩, ?_, ?_⟩
  · intro x xs acc S1 ⟨i, R', e1, li, e2, e3, e4, e5, e6⟩
    subst e2 e3
    have hi : i < t.length := by
      rcases Nat.lt_or_ge i t.length with l | l
      · exact l
      · rw [List.drop_eq_nil_of_le l] at e1
        cases e1
    have hr : t[i]? = some t[i] := List.getElem?_eq_getElem hi
    rw [List.drop_eq_getElem_cons hi, List.map_cons] at e1
    generalize t[i] = r at hr e1
    obtain ⟨rfl, rfl⟩ := List.cons.inj e1
    refine ⟨by unfold locsD; rw [List.length_map, List.length_range]; omega, ?_⟩
    (repeat walk_at "mi")
    with_reducible refine s_items (by with_unfolding_all rfl) ?_
    with_reducible refine s_newC (pure_pds r) ?_
    (repeat walk_at "mi")
    refine ⟨i + 1, _, rfl, by omega, ?_, rfl, by rw [List.length_append, e4]; rfl, take_app e5 (by omega), fun j hj => ?_⟩
    · rw [← locsD_succ, e4]
    · rcases Nat.lt_or_ge j i with l | l
      · obtain ⟨r2, h1, h2⟩ := e6 j l
        exact ⟨r2, h1, app_get h2⟩
      · have : j = i := by omega
        subst this
        refine ⟨r, hr, ?_⟩
        rw [← e4]
        exact app_new
  · intro acc S1 ⟨i, R', e1, li, e2, e3, e4, e5, e6⟩
    subst e2 e3
    have hi : i = n := by
      rcases Nat.lt_or_ge i n with l | l
      · rw [List.drop_eq_getElem_cons (by omega)] at e1
        cases e1
      · omega
    subst hi
    have tv := TV.of ht e6
    rw [hP] at tv
    have sv : SV i i R.length P R' P := ⟨tv, fun j hj k hk => by rw [PM_self], fun k h1 h2 => by omega⟩
    clear e1 e6 hP
    generalize hB : R.length = B at e4 e5 sv tv ⊢
    (repeat walk_at "mi")
    with_reducible refine w_gtup2 ?_
    (repeat walk_at "mi")
    with_reducible refine w_for (w_range3 ?_)
    (repeat walk_at "mi")
    refine ⟨((i - 1 : Nat) : Int), 0, by congr 2; omega, rfl, rfl, ?_, _, rfl, ?_⟩
    · unfold inR
      exact Bool.and_eq_true_iff.mpr ⟨decide_eq_true (by omega), by decide⟩
    rw [show ((((i - 1 : Nat) : Int) - 0).toNat) = i - 1 by omega]
    refine ok_forFix (fun xs ρ S1 => ∃ (m : Nat) (R' : Sto) (M : Mat) (o1 o5 o6 o7 o9 : Option D), xs = downL (m : Int) m ∧ m < i ∧ ρ = [some (tabD t), o1, none, some (.int i), some (.lst (locsD B i)), o5, o6, o7, none, o9, none] ∧ S1 = w :: R' ∧ R'.length = B + i ∧ R'.take B = R ∧ SV i (m + 1) B P R' M) _ _ _ ⟨i - 1, R', P, none, none, none, none, none, rfl, by omega, rfl, rfl, e4, e5, by rw [show i - 1 + 1 = i by omega]; exact sv⟩ ?_ ?_
    · intro x xs ρ S1 ⟨m0, R1, M, o1, o5, o6, o7, o9, e1, lm, e2, e3, e4, e5, sv⟩
      obtain ⟨m, rfl, rfl, rfl⟩ := downL_succ e1
      subst e2 e3
      have gp : 0 < sumTo (PM i P (m + 2) (m + 1)) (m + 1) := (Z.irr.pm (m := m + 2) (by omega) (by omega)).goes (by omega)
      have gs : ∀ k, k ≤ m + 1 → SB 2400 (sumTo (PM i P (m + 2) (m + 1)) k) := Z.row (m + 1) (by omega) lm
      have sm : ∀ j, j < m + 2 → ∀ k, k < m + 2 → SB 2400 (M j k) := fun j hj k hk => by
        rw [sv.lo j hj k hk]
        exact Z.pm (m + 2) (by omega) (by omega) j hj k hk
      (repeat walk_at "mi")
      -- what goes on from the last place
      with_reducible refine w_slice ?_
      (repeat walk_at "mi")
      with_reducible refine w_getItem ⟨.loc (B + (m + 1) + 1), ?_, ?_⟩
      · show L2.atI (locsD B i) ((m + 1 : Nat) : Int) = _
        exact atI_nat (locsD_get lm)
      with_reducible refine w_onone (w_osome ?_)
      (repeat walk_at "mi")
      refine ⟨((m + 1 : Nat) : Int), rfl, ?_⟩
      obtain ⟨rl, cl, vl⟩ := sv.tv (m + 1) lm
      with_reducible refine s_slice ⟨.lst ((rl.take (m + 1)).map pd), ?_, ?_⟩
      · show (litemsO (w :: R1) (.loc (B + (m + 1) + 1))).map (fun xs => D.lst (cut xs none (some ((m + 1 : Nat) : Int)))) = _
        rw [lit_C cl]
        show some (D.lst (cut (rl.map pd) none (some ((m + 1 : Nat) : Int)))) = _
        rw [cut_take, List.map_take]
      have vg := vl.take (m := m + 1) (by omega)
      (repeat walk_at "mi")
      with_reducible refine ok_law_totalS (e := 2400) (e' := 2400) (fs := rl.take (m + 1)) (by with_unfolding_all rfl) vg (by omega) (fun j hj => sm (m + 1) (by omega) j (by omega)) (fun k hk => by rw [sumTo_congr (g := PM i P (m + 2) (m + 1)) fun j hj => sv.lo (m + 1) (by omega) j (by omega)]; exact gs k hk) (by omega) ?_
      have gr := vg.sum.2.1
      have gq := vg.sum.2.2
      have gq2 : rq (sumF (rl.take (m + 1))) = sumTo (PM i P (m + 2) (m + 1)) (m + 1) := by
        rw [gq]
        exact sumTo_congr fun j hj => sv.lo (m + 1) (by omega) j (by omega)
      generalize sumF (rl.take (m + 1)) = g at gr gq2
      have gb : fB 2400 g := fB_of gr (by rw [gq2]; exact gs _ (Nat.le_refl _))
      have g0 : 0 < g.1 := (rq_pos gr.1).mp (by rw [gq2]; exact gp)
      (repeat walk_at "mi")
      with_reducible refine w_for (w_range1 ?_)
      (repeat walk_at "mi")
      refine ⟨((m + 1 : Nat) : Int), rfl, ?_, _, rfl, ?_⟩
      · unfold inR
        exact decide_eq_true (by omega)
      rw [show ((m + 1 : Nat) : Int).toNat = m + 1 from rfl]
      -- the places ahead of it
      refine ok_forFix (fun xs ρ S1 => ∃ (h : Nat) (R' : Sto) (o6 o7 o9 : Option D), xs = rangeL ((h : Nat) : Int) (m + 1 - h) ∧ h ≤ m + 1 ∧ ρ = [some (tabD t), some (natD (m + 1)), none, some (.int i), some (.lst (locsD B i)), some (pd g), o6, o7, none, o9, none] ∧ S1 = w :: R' ∧ R'.length = B + i ∧ R'.take B = R ∧ TV i B R' (fun j k => if j < h then rowT P i (m + 1) (m + 1) M j k else M j k)) _ _ _ ⟨0, R1, _, _, _, rfl, Nat.zero_le _, rfl, rfl, e4, e5, sv.tv.congr fun j hj k hk => by rw [if_neg (by omega)]⟩ ?_ ?_
      · intro y ys ρ S2 ⟨h, R2, o6, o7, o9, e1, lh, e2, e3, e4, e5, tv⟩
        obtain ⟨lh2, e7, e8⟩ := rangeL_succ e1
        subst e2 e3 e7
        have hloc : ∀ S, itemO S (.lst (locsD B i)) (natD h) = some (.loc (B + h + 1)) := fun S => by
          show L2.atI (locsD B i) ((h : Nat) : Int) = _
          exact atI_nat (locsD_get (by omega))
        have lloc : ∀ S, itemO S (.lst (locsD B i)) (natD (m + 1)) = some (.loc (B + (m + 1) + 1)) := fun S => by
          show L2.atI (locsD B i) ((m + 1 : Nat) : Int) = _
          exact atI_nat (locsD_get lm)
        obtain ⟨rh, ch, vh⟩ := tv h (by omega)
        have vh : RV i rh (M h) := vh.congr fun k hk => by show (if h < h then _ else _) = _; rw [if_neg (by omega)]
        obtain ⟨p, hp, pr, pq⟩ := vh.get lm
        have pb : fB 2400 p := fB_of pr (by rw [pq]; exact sm h (by omega) (m + 1) (by omega))
        (repeat walk_at "mi")
        with_reducible refine w_getItem ⟨_, hloc _, ?_⟩
        (repeat walk_at "mi")
        with_reducible refine w_getItem ⟨pd p, itemC ch hp, ?_⟩
        (repeat walk_at "mi")
        with_reducible refine ok_law_over pb gb g0 (by omega) ?_
        have mr := overF_red (x := p) (y := g) pr.1 g0
        have mq : rq (overF p g) = mu i P h (m + 1) := by
          rw [overF_q pr.1 gr.1 g0, pq, gq2, sv.lo h (by omega) (m + 1) (by omega)]
          rfl
        have mb : fB 2400 (overF p g) := fB_of mr (by rw [mq]; exact Z.mu (m + 1) (by omega) lm h (by omega))
        generalize overF p g = μ at mr mq mb
        (repeat walk_at "mi")
        with_reducible refine w_gsub ?_
        (repeat walk_at "mi")
        with_reducible refine w_getItem ⟨_, hloc _, ?_⟩
        (repeat walk_at "mi")
        have hs := sets_pd rh (m + 1) μ
        show Ok (setItem (.loc (B + h + 1)) (.int ((m + 1 : Nat) : Int)) (pd μ)) _ _
        with_reducible refine s_setC ch (by rw [List.length_map, vh.1]; exact lm) ((congrArg pureL hs).trans (pure_pds _)) ?_
        rw [hs]
        have v1 := vh.set (i := m + 1) mr
        have tv1 := tv.put (i := h) (by omega) v1
        have e4' : (R2.set (B + h) (.lst ((rh.set (m + 1) μ).map pd))).length = B + i := by rw [List.length_set]; exact e4
        have e5' : (R2.set (B + h) (.lst ((rh.set (m + 1) μ).map pd))).take B = R := take_put e5 (by omega)
        generalize R2.set (B + h) (.lst ((rh.set (m + 1) μ).map pd)) = R3 at tv1 e4' e5' ⊢
        (repeat walk_at "mi")
        with_reducible refine w_for (w_range1 ?_)
        (repeat walk_at "mi")
        refine ⟨((m + 1 : Nat) : Int), rfl, ?_, _, rfl, ?_⟩
        · unfold inR
          exact decide_eq_true (by omega)
        rw [show ((m + 1 : Nat) : Int).toNat = m + 1 from rfl]
        refine ok_forFix (fun xs ρ S1 => ∃ (u : Nat) (R' : Sto) (o7 o9 : Option D), xs = rangeL ((u : Nat) : Int) (m + 1 - u) ∧ u ≤ m + 1 ∧ ρ = [some (tabD t), some (natD (m + 1)), none, some (.int i), some (.lst (locsD B i)), some (pd g), some (natD h), o7, none, o9, none] ∧ S1 = w :: R' ∧ R'.length = B + i ∧ R'.take B = R ∧ TV i B R' (fun j k => if j < h then rowT P i (m + 1) (m + 1) M j k else if j = h then rowT P i (m + 1) u M j k else M j k)) _ _ _ ⟨0, R3, _, _, rfl, Nat.zero_le _, rfl, rfl, e4', e5', tv1.congr fun j hj k hk => ?_⟩ ?_ ?_
        · show (if j = h then (fun k => if k = m + 1 then rq μ else M h k) else fun k => if j < h then _ else _) k = _
          by_cases g1 : j = h
          · subst g1
            simp only [if_true, Nat.lt_irrefl, if_false, rowT, Nat.not_lt_zero, mq]
          · rw [if_neg g1]
            by_cases g2 : j < h
            · show (if j < h then _ else _) = _
              rw [if_pos g2, if_pos g2]
            · show (if j < h then _ else _) = _
              rw [if_neg g2, if_neg g2, if_neg g1]
        · intro z zs ρ S3 ⟨u, R4, o7, o9, e1, lu, e2, e3, e4, e5, tv⟩
          obtain ⟨lu2, e7, e9⟩ := rangeL_succ e1
          subst e2 e3 e7
          obtain ⟨r4, c4, v4⟩ := tv h (by omega)
          have v4 : RV i r4 (rowT P i (m + 1) u M h) := v4.congr fun k hk => by show (if h < h then _ else if h = h then _ else _) = _; rw [if_neg (by omega), if_pos rfl]
          obtain ⟨r5, c5, v5⟩ := tv (m + 1) lm
          have v5 : RV i r5 (M (m + 1)) := v5.congr fun k hk => by show (if m + 1 < h then _ else if m + 1 = h then _ else _) = _; rw [if_neg (by omega), if_neg (by omega)]
          obtain ⟨p1, hp1, pr1, pq1⟩ := v4.get lm
          have pq1 : rq p1 = mu i P h (m + 1) := by rw [pq1]; unfold rowT; rw [if_neg (by omega), if_pos rfl]
          obtain ⟨p2, hp2, pr2, pq2⟩ := v5.get (i := u) (by omega)
          obtain ⟨p3, hp3, pr3, pq3⟩ := v4.get (i := u) (by omega)
          have pq3 : rq p3 = M h u := by rw [pq3]; unfold rowT; rw [if_neg (by omega), if_neg (by omega)]
          have b1 : fB 2400 p1 := fB_of pr1 (by rw [pq1]; exact Z.mu (m + 1) (by omega) lm h (by omega))
          have b2 : fB 2400 p2 := fB_of pr2 (by rw [pq2]; exact sm (m + 1) (by omega) u (by omega))
          have b3 : fB 2400 p3 := fB_of pr3 (by rw [pq3]; exact sm h (by omega) u (by omega))
          (repeat walk_at "mi")
          with_reducible refine w_getItem ⟨_, hloc _, ?_⟩
          (repeat walk_at "mi")
          with_reducible refine w_getItem ⟨pd p1, itemC c4 hp1, ?_⟩
          (repeat walk_at "mi")
          with_reducible refine w_getItem ⟨_, lloc _, ?_⟩
          (repeat walk_at "mi")
          with_reducible refine w_getItem ⟨pd p2, itemC c5 hp2, ?_⟩
          (repeat walk_at "mi")
          with_reducible refine ok_law_times b1 b2 (by omega) ?_
          (repeat walk_at "mi")
          with_reducible refine w_getItem ⟨_, hloc _, ?_⟩
          (repeat walk_at "mi")
          with_reducible refine w_getItem ⟨pd p3, itemC c4 hp3, ?_⟩
          (repeat walk_at "mi")
          have tb := timesF_size b1 b2
          with_reducible refine ok_law_plus b3 tb (by omega) ?_
          have ar := addF_red pr3.1 (timesF_red pr1.1 pr2.1).1
          have aq : rq (addF p3 (timesF p1 p2)) = M h u + mu i P h (m + 1) * M (m + 1) u := by
            rw [addF_q pr3.1 (timesF_red pr1.1 pr2.1).1, timesF_q pr1.1 pr2.1, pq1, pq2, pq3]
          generalize addF p3 (timesF p1 p2) = a at ar aq
          (repeat walk_at "mi")
          with_reducible refine w_gsub ?_
          (repeat walk_at "mi")
          with_reducible refine w_getItem ⟨_, hloc _, ?_⟩
          (repeat walk_at "mi")
          have hs := sets_pd r4 u a
          show Ok (setItem (.loc (B + h + 1)) (.int ((u : Nat) : Int)) (pd a)) _ _
          with_reducible refine s_setC c4 (by rw [List.length_map, v4.1]; omega) ((congrArg pureL hs).trans (pure_pds _)) ?_
          rw [hs]
          have v6 := v4.set (i := u) ar
          have tv6 := tv.put (i := h) (by omega) v6
          (repeat walk_at "mi")
          refine ⟨u + 1, _, _, _, e9, lu2, rfl, rfl, by rw [List.length_set]; exact e4, take_put e5 (by omega), tv6.congr fun j hj k hk => ?_⟩
          show (if j = h then (fun k => if k = u then rq a else rowT P i (m + 1) u M h k) else fun k => if j < h then _ else _) k = _
          by_cases g1 : j = h
          · subst g1
            simp only [if_true, Nat.lt_irrefl, if_false]
            by_cases g3 : k = u
            · subst g3
              rw [if_pos rfl, aq]
              unfold rowT
              rw [if_pos (by omega)]
            · rw [if_neg g3]
              unfold rowT
              by_cases g4 : k < u
              · rw [if_pos g4, if_pos (by omega)]
              · have g5 : ¬ k < u + 1 := by omega
                simp only [g4, g5, if_false]
          · rw [if_neg g1]
            by_cases g2 : j < h
            · show (if j < h then _ else _) = _
              rw [if_pos g2, if_pos g2]
            · show (if j < h then _ else if j = h then _ else _) = _
              rw [if_neg g2, if_neg g2, if_neg g1, if_neg g1]
        · intro ρ S3 ⟨u, R4, o7, o9, e1, lu, e2, e3, e4, e5, tv⟩
          have := rangeL_nil e1 lu
          subst this
          subst e2 e3
          (repeat walk_at "mi")
          refine ⟨h + 1, R4, _, _, _, e8, lh2, rfl, rfl, e4, e5, tv.congr fun j hj k hk => ?_⟩
          show (if j < h then _ else if j = h then _ else _) = _
          by_cases g2 : j < h
          · rw [if_pos g2, if_pos (by omega)]
          · rw [if_neg g2]
            by_cases g1 : j = h
            · rw [if_pos g1, if_pos (by omega)]
            · rw [if_neg g1, if_neg (by omega)]
      · intro ρ S2 ⟨h, R2, o6, o7, o9, e1, lh, e2, e3, e4, e5, tv⟩
        have := rangeL_nil e1 lh
        subst this
        subst e2 e3
        (repeat walk_at "mi")
        refine ⟨m, R2, _, _, _, _, _, _, rfl, by omega, rfl, rfl, e4, e5, tv, fun j hj k hk => ?_, fun k h1 h2 j hj => ?_⟩
        · show (if j < m + 1 then _ else _) = _
          rw [if_pos hj]
          unfold rowT
          rw [if_pos hk]
          exact PM_row lm hj hk sv.lo
        · show (if j < m + 1 then _ else _) = _
          by_cases g2 : j < m + 1
          · rw [if_pos g2]
            unfold rowT
            rw [if_neg (by omega)]
            by_cases g3 : k = m + 1
            · rw [if_pos g3, g3]
            · rw [if_neg g3]
              exact sv.hi k (by omega) h2 j hj
          · rw [if_neg g2]
            exact sv.hi k (by omega) h2 j hj
    · intro ρ S1 ⟨m, R1, M, o1, o5, o6, o7, o9, e1, lm, e2, e3, e4, e5, sv⟩
      have := downL_nil e1
      subst this
      subst e2 e3
      (repeat walk_at "mi")
      with_reducible refine s_newC (by with_unfolding_all rfl) ?_
      rw [e4]
      have cF : (R1 ++ [MO.lst [.tup [.int 1, .int 1]]])[B + i]? = some (.lst ([((1 : Int), (1 : Int))].map pd)) := by rw [← e4]; exact app_new
      have tv2 : TV i B (R1 ++ [MO.lst [.tup [.int 1, .int 1]]]) M := sv.tv.app
      have e5' : (R1 ++ [MO.lst [.tup [.int 1, .int 1]]]).take B = R := take_app e5 (by omega)
      have v1 : RV 1 [((1 : Int), (1 : Int))] (vec i P) := ⟨rfl, fun j hj => ⟨(1, 1), by have : j = 0 := by omega
                                                                                         subst this; rfl, red_one, by have : j = 0 := by omega
                                                                                                                      subst this; rw [rq_one, vec_zero i P i P]⟩⟩
      generalize R1 ++ [MO.lst [.tup [.int 1, .int 1]]] = R2 at cF tv2 e5' ⊢
      have smu : ∀ j l, 1 ≤ l → l < i → j < l → M j l = mu i P j l := fun j l h1 h2 h3 => sv.hi l (by omega) h2 j h3
      clear sv e4 e5 tv
      (repeat walk_at "mi")
      with_reducible refine w_for (w_range2 ?_)
      (repeat walk_at "mi")
      refine ⟨((1 : Nat) : Int), (i : Int), rfl, rfl, ?_, _, rfl, ?_⟩
      · unfold inR
        exact Bool.and_eq_true_iff.mpr ⟨by decide, decide_eq_true (by omega)⟩
      rw [show (((i : Int) - ((1 : Nat) : Int)).toNat) = i - 1 by omega]
      refine ok_forFix (fun xs ρ S1 => ∃ (l : Nat) (R' : Sto) (vs : List (Int × Int)) (o1 o10 : Option D), xs = rangeL ((l : Nat) : Int) (i - l) ∧ 1 ≤ l ∧ l ≤ i ∧ ρ = [some (tabD t), o1, some (.loc (B + i + 1)), some (.int i), some (.lst (locsD B i)), o5, o6, o7, none, o9, o10] ∧ S1 = w :: R' ∧ R'.take B = R ∧ TV i B R' M ∧ R'[B + i]? = some (.lst (vs.map pd)) ∧ RV l vs (vec i P)) _ _ _ ⟨1, R2, _, _, _, rfl, Nat.le_refl _, by omega, rfl, rfl, e5', tv2, cF, v1⟩ ?_ ?_
      · intro x xs ρ S2 ⟨l, R3, vs, o1, o10, e1, l1, l2, e2, e3, e5, tv, cF, vv⟩
        obtain ⟨l3, e7, e8⟩ := rangeL_succ e1
        subst e2 e3 e7
        (repeat walk_at "mi")
        with_reducible refine s_litC cF ?_
        (repeat walk_at "mi")
        have hent : ∀ j, j < l → ∃ (a b : Int × Int), vs[j]? = some a ∧ (∃ s : List (Int × Int), R3[B + j]? = some (.lst (s.map pd)) ∧ (s.map pd)[l]? = some (pd b)) ∧ red a ∧ rq a = vec i P j ∧ red b ∧ rq b = mu i P j l := by
          intro j hj
          obtain ⟨a, a1, a2, a3⟩ := vv.2 j hj
          obtain ⟨s, s1, s2⟩ := tv j (by omega)
          obtain ⟨b, b1, b2, b3⟩ := s2.get l3
          exact ⟨a, b, a1, ⟨s, s1, b1⟩, a2, a3, b2, by rw [b3]; exact smu j l l1 l3 hj⟩
        have hfun : ∀ j : Nat, ∃ f : Int × Int, j < l → ∃ (a b : Int × Int), f = timesF a b ∧ vs[j]? = some a ∧ (∃ s : List (Int × Int), R3[B + j]? = some (.lst (s.map pd)) ∧ (s.map pd)[l]? = some (pd b)) ∧ red a ∧ rq a = vec i P j ∧ red b ∧ rq b = mu i P j l := by
          intro j
          by_cases hj : j < l
          · obtain ⟨a, b, h⟩ := hent j hj
            exact ⟨timesF a b, fun _ => ⟨a, b, rfl, h⟩⟩
          · exact ⟨(0, 1), fun h => (hj h).elim⟩
        have hfun := Classical.skolem.mp hfun
        with_reducible refine Exists.elim hfun fun f hf => ?_
        with_reducible refine w_comp (natF f) (w_range1 ?_)
        (repeat walk_at "mi")
        refine ⟨(l : Int), rfl, ?_, _, rfl, rfl, ?_, ?_, ?_⟩
        · unfold inR
          exact decide_eq_true (by omega)
        · rw [range_len2]
          simp only [sizeLine]; omega
        · intro z hz
          obtain ⟨j, hj, e⟩ := range_mem l 0 z hz
          have e : z = natD j := by rw [e]; show D.int _ = D.int _; congr 1; omega
          subst e
          obtain ⟨a, b, f1, f2, ⟨s, f3, f4⟩, f5, f6, f7, f8⟩ := hf j hj
          have ab : fB eb a := fB_of f5 (by rw [f6]; exact Z.vec j (by omega))
          have bb : fB 2400 b := fB_of f7 (by rw [f8]; exact Z.mu l l1 l3 j hj)
          (repeat walk_at "mi")
          with_reducible refine w_getItem ⟨pd a, itemC cF (get_pd f2), ?_⟩
          (repeat walk_at "mi")
          with_reducible refine w_getItem ⟨.loc (B + j + 1), ?_, ?_⟩
          · show L2.atI (locsD B i) (j : Int) = _
            exact atI_nat (locsD_get (by omega))
          (repeat walk_at "mi")
          with_reducible refine w_getItem ⟨pd b, itemC f3 f4, ?_⟩
          (repeat walk_at "mi")
          with_reducible refine ok_law_times ab bb (by omega) ?_
          refine ⟨?_, rfl⟩
          show some (pd (f j)) = _
          rw [f1]
        · have e : (rangeL 0 l).filterMap (natF f) = ((List.range l).map f).map pd := by
            rw [show (0 : Int) = ((0 : Nat) : Int) from rfl, rangeL_nats, ← List.range_eq_range', List.filterMap_map, List.map_map, ← List.filterMap_eq_map]
            rfl
          rw [Int.toNat_natCast, e]
          have vf : RV l ((List.range l).map f) (fun j => vec i P j * mu i P j l) := by
            refine ⟨by rw [List.length_map, List.length_range], fun j hj => ?_⟩
            obtain ⟨a, b, f1, f2, _, f5, f6, f7, f8⟩ := hf j hj
            refine ⟨f j, by rw [List.getElem?_map, List.getElem?_range hj]; rfl, ?_, ?_⟩
            · rw [f1]; exact timesF_red f5.1 f7.1
            · rw [f1, timesF_q f5.1 f7.1, f6, f8]
          (repeat walk_at "mi")
          with_reducible refine ok_law_totalS (e := 4300) (e' := 4300) (fs := (List.range l).map f) (by with_unfolding_all rfl) vf (by omega) (Z.vmu l l1 l3) (Z.vms l l1 l3) (by omega) ?_
          have sr := vf.sum.2.1
          have sq0 := vf.sum.2.2
          have sq : rq (sumF ((List.range l).map f)) = vec i P l := by
            rw [sq0]
            exact (Z.irr.vec_mu l1 l3).symm
          generalize sumF ((List.range l).map f) = a at sr sq
          (repeat walk_at "mi")
          have hp : vs.map pd ++ [pd a] = (vs ++ [a]).map pd := by rw [List.map_append]; rfl
          with_reducible refine s_appC cF (by rw [List.length_map, vv.1]; omega) ((congrArg pureL hp).trans (pure_pds _)) ?_
          rw [hp]
          (repeat walk_at "mi")
          exact ⟨l + 1, _, vs ++ [a], _, _, e8, by omega, l3, rfl, rfl, take_put e5 (by omega), tv.ne (Nat.le_refl _), put_self cF, vv.push sr sq⟩
      · intro ρ S2 ⟨l, R3, vs, o1, o10, e1, l1, l2, e2, e3, e5, tv, cF, vv⟩
        have := rangeL_nil e1 l2
        subst this
        subst e2 e3
        (repeat walk_at "mi")
        with_reducible refine ok_law_over_sumS (e := eb) (e' := eb) (it_C cF) vv (by omega) Z.vec Z.vsum (by omega) (Z.irr.vpos Z.lo).2 fun us vr => ?_
        have vr : RV l us (sh l P) := vr
        (repeat walk_at "mi")
        refine s_finT (pure_pds _) ?_
        have e : List.take (w :: R).length (w :: R3) = w :: R := by rw [List.length_cons, List.take_succ_cons, hB, e5]
        rw [e]
        exact q _ vr
end Lw

/-! KV: flows and the walk backwards, as the law has them. -/
namespace Lw
open PySem MI
theorem at_41 : Fs[41]? = some F__law_flows := rfl
structure TT (n : Nat) (t : Tab) (M : Mat) : Prop where
  len : t.length = n
  el : ∀ i, i < n → ∃ s, t[i]? = some s ∧ RV n s (M i)
theorem TT.of {n : Nat} {t : Tab} (ht : TabOk n t) : TT n t (matT t) := ⟨ht.sq.1, fun i hi => by
  obtain ⟨r, hr, hrm, hrl, _, _⟩ := ent_get ht.sq hi hi
  refine ⟨r, hr, hrl, fun j hj => ?_⟩
  obtain ⟨r2, hr2, hrm2, _, hp, hpm⟩ := ent_get ht.sq hi hj
  rw [hr] at hr2
  cases hr2
  exact ⟨_, hp, (ht.fr r hrm _ hpm).1, rfl⟩⟩
theorem TT.sq {n : Nat} {t : Tab} {M : Mat} (h : TT n t M) : Sq n t := ⟨h.len, fun r hr => by
  obtain ⟨i, hi, e⟩ := List.getElem_of_mem hr
  obtain ⟨s, h1, h2⟩ := h.el i (by rw [← h.len]; exact hi)
  rw [List.getElem?_eq_getElem hi, e] at h1
  cases h1
  exact h2.len⟩
theorem TT.mat {n : Nat} {t : Tab} {M : Mat} (h : TT n t M) {i j : Nat} (hi : i < n) (hj : j < n) : matT t i j = M i j ∧ red (ent t i j) := by
  obtain ⟨s, h1, h2⟩ := h.el i hi
  obtain ⟨p, h3, h4, h5⟩ := h2.el j hj
  unfold matT
  rw [ent_of h1 h3]
  exact ⟨h5, h4⟩
def flG (ss : List (Int × Int)) : Nat → Tab → Tab
  | _, [] => []
  | k, r :: t => r.map (timesF (ss.getD k (0, 1))) :: flG ss (k + 1) t
def flH (ss : List (Int × Int)) : D → Option D
  | .tup [.int i, r] => some (rowD ((rowOf r).map (timesF (ss.getD i.toNat (0, 1)))))
  | _ => none
theorem fl_eq (ss : List (Int × Int)) : ∀ (t : Tab) (k : Nat), (numb k (t.map rowD)).filterMap (flH ss) = (flG ss k t).map rowD
  | [], _ => rfl
  | r :: t, k => by
    show List.filterMap (flH ss) (.tup [.int k, rowD r] :: numb (k + 1) (t.map rowD)) = _
    rw [List.filterMap_cons_some (b := rowD (r.map (timesF (ss.getD k (0, 1))))) (by show some (rowD ((rowOf (rowD r)).map (timesF (ss.getD (k : Int).toNat (0, 1))))) = _; rw [rowOf_row]; rfl), fl_eq ss t (k + 1)]
    rfl
theorem fl_get (ss : List (Int × Int)) : ∀ (t : Tab) (k i : Nat), (flG ss k t)[i]? = (t[i]?).map fun r => r.map (timesF (ss.getD (k + i) (0, 1)))
  | [], _, i => by simp [flG]
  | r :: t, k, 0 => rfl
  | r :: t, k, i + 1 => by
    show (flG ss (k + 1) t)[i]? = _
    rw [fl_get ss t (k + 1) i, List.getElem?_cons_succ, show k + 1 + i = k + (i + 1) by omega]
theorem numb_rows : ∀ (t : Tab) (k : Nat), ∀ x ∈ numb k (t.map rowD), ∃ (i : Nat) (r : List (Int × Int)), x = .tup [natD (k + i), rowD r] ∧ t[i]? = some r
  | [], _, x, h => by cases h
  | r :: t, k, x, h => by
    rcases List.mem_cons.mp h with e | h
    · exact ⟨0, r, e, rfl⟩
    · obtain ⟨i, s, e, hs⟩ := numb_rows t (k + 1) x h
      exact ⟨i + 1, s, by rw [e, show k + 1 + i = k + (i + 1) by omega], hs⟩
def tmH (s : Int × Int) (x : D) : Option D := some (pd (timesF s (pairOf x)))
theorem tm_eq (s : Int × Int) (r : List (Int × Int)) : (r.map pd).filterMap (tmH s) = (r.map (timesF s)).map pd := by
  rw [List.filterMap_map, List.map_map, ← List.filterMap_eq_map]
  rfl
theorem ok_law_flows {k n : Nat} {t : Tab} {w : MO} {R : Sto} {Q : D → Sto → Prop} {b : Nat} (W : Wk n b t) (q : ∀ ft : Tab, TT n ft (fun i j => sh n (matT t) i * matT t i j) → Q (tabD ft) (w :: R)) : Ok (callF Fs (k + 6) 41 [tabD t]) (w :: R) Q := by
  have ht := W.ok
  have tl : t.length = n := ht.sq.1
  have n5 := W.hi
  have el := W.e2
  have bl := W.bn
  have tt := TT.of ht
  with_reducible refine s_call at_41 (by with_unfolding_all rfl) ?_
  unfold F__law_flows
  dsimp only
  (repeat walk_at "mi")
  with_reducible refine ok_law_shares W fun ss vs => ?_
  (repeat walk_at "mi")
  with_reducible refine w_comp (flH ss) (w_enum ?_)
  (repeat walk_at "mi")
  refine ⟨_, rfl, rfl, ?_, fun x hx => ?_, ?_⟩
  · rw [numb_len, List.length_map]
    simp only [sizeLine]; omega
  · obtain ⟨i, r, rfl, hr⟩ := numb_rows t 0 x hx
    have hi : i < n := by rw [← tl]; exact (List.getElem?_eq_some_iff.mp hr).1
    obtain ⟨s, s1, s2, s3⟩ := vs.get hi
    obtain ⟨r2, hr2, vr⟩ := tt.el i hi
    rw [hr] at hr2
    cases hr2
    have sb : fB (n * (b + 6)) s := fB_of s2 (by rw [s3]; exact W.sz.sh i hi)
    have rb : ∀ p ∈ r, fB b p := vr.fB fun j hj => W.sb hi hj
    rw [Nat.zero_add]
    with_reducible refine w_gtup2 ?_
    (repeat walk_at "mi")
    with_reducible refine w_comp (tmH s) (w_iseq ?_)
    (repeat walk_at "mi")
    refine ⟨r.map pd, rfl, rfl, by rw [List.length_map, vr.len]; simp only [sizeLine]; omega, fun y hy => ?_, ?_⟩
    · obtain ⟨p, hp, rfl⟩ := List.mem_map.mp hy
      (repeat walk_at "mi")
      with_reducible refine w_getItem ⟨pd s, ?_, ?_⟩
      · show L2.atI (ss.map pd) (i : Int) = _
        exact atI_nat s1
      (repeat walk_at "mi")
      with_reducible refine ok_law_times sb (rb p hp) (by omega) ?_
      exact ⟨rfl, rfl⟩
    · rw [tm_eq]
      (repeat walk_at "mi")
      refine ⟨?_, rfl⟩
      show some (rowD ((rowOf (rowD r)).map (timesF (ss.getD (i : Int).toNat (0, 1))))) = _
      have e : ss.getD i (0, 1) = s := by
        obtain ⟨s', h1, _⟩ := vs.el i hi
        have h2 := get_pd h1
        rw [s1] at h2
        have h3 : pd s = pd s' := Option.some.inj h2
        have h4 : s = s' := by
          have := D.tup.inj h3
          obtain ⟨a1, a2⟩ := List.cons.inj this
          exact Prod.ext (D.int.inj a1) (D.int.inj (List.cons.inj a2).1)
        rw [List.getD_eq_getElem?_getD, h1, h4]
        rfl
      rw [rowOf_row, Int.toNat_natCast, e]
      rfl
  · rw [fl_eq]
    (repeat walk_at "mi")
    refine s_fin (pure_rows _) ?_
    refine q _ ⟨?_, fun i hi => ?_⟩
    · have : ∀ (t : Tab) (k : Nat), (flG ss k t).length = t.length := fun t => by
        induction t with
        | nil => intro _; rfl
        | cons r t ih => intro k; show (flG ss (k + 1) t).length + 1 = _; rw [ih]; rfl
      rw [this, tl]
    · obtain ⟨r, hr, vr⟩ := tt.el i hi
      obtain ⟨s, s1, s2, s3⟩ := vs.el i hi
      have e : ss.getD i (0, 1) = s := by rw [List.getD_eq_getElem?_getD, s1]; rfl
      refine ⟨r.map (timesF s), by rw [fl_get, hr, Nat.zero_add, e]; rfl, by rw [List.length_map]; exact vr.len, fun j hj => ?_⟩
      obtain ⟨p, p1, p2, p3⟩ := vr.el j hj
      exact ⟨timesF s p, by rw [List.getElem?_map, p1]; rfl, timesF_red s2.1 p2.1, by rw [timesF_q s2.1 p2.1, s3, p3]⟩
def colH (at_ : Nat) (x : D) : Option D := ((rowOf x)[at_]?).map pd
def colT (ft : Tab) (at_ : Nat) : List (Int × Int) := ft.map fun r => r.getD at_ (0, 1)
theorem col_eq {n at_ : Nat} (h : at_ < n) : ∀ ft : Tab, (∀ r ∈ ft, r.length = n) → (ft.map rowD).filterMap (colH at_) = (colT ft at_).map pd
  | [], _ => rfl
  | r :: ft, hl => by
    have h1 := hl r List.mem_cons_self
    have h2 : r[at_]? = some r[at_] := List.getElem?_eq_getElem (by omega)
    rw [List.map_cons, List.filterMap_cons_some (b := pd r[at_]) (by show ((rowOf (rowD r))[at_]?).map pd = _; rw [rowOf_row, h2]; rfl), col_eq h ft fun s hs => hl s (List.mem_cons_of_mem _ hs)]
    show _ = pd (r.getD at_ (0, 1)) :: _
    rw [List.getD_eq_getElem?_getD, h2]
    rfl
def bkRow (ft : Tab) (at_ : Nat) : List (Int × Int) := (colT ft at_).map fun p => overF p (sumF (colT ft at_))
def natR (f : Nat → List (Int × Int)) : D → Option D
  | .int j => some (rowD (f j.toNat))
  | _ => none
theorem natR_eq (f : Nat → List (Int × Int)) (n : Nat) : (rangeL 0 n).filterMap (natR f) = ((List.range n).map f).map rowD := by
  rw [show (0 : Int) = ((0 : Nat) : Int) from rfl, rangeL_nats, ← List.range_eq_range', List.filterMap_map, List.map_map, ← List.filterMap_eq_map]
  rfl
theorem col_rv {n : Nat} {ft : Tab} {M : Mat} (h : TT n ft M) {at_ : Nat} (ha : at_ < n) : RV n (colT ft at_) (fun j => M j at_) := by
  refine ⟨by unfold colT; rw [List.length_map]; exact h.len, fun j hj => ?_⟩
  obtain ⟨r, hr, vr⟩ := h.el j hj
  obtain ⟨p, p1, p2, p3⟩ := vr.el at_ ha
  refine ⟨p, ?_, p2, p3⟩
  unfold colT
  rw [List.getElem?_map, hr]
  show some (r.getD at_ (0, 1)) = _
  rw [List.getD_eq_getElem?_getD, p1]
  rfl
/-- tables as walks -/
theorem TT.tabOk {n : Nat} {t : Tab} {M : Mat} (h : TT n t M) (lo : 1 ≤ n) (hi : n ≤ 6) (nn : ∀ i, i < n → ∀ j, j < n → 0 ≤ M i j) : TabOk n t := ⟨h.sq, lo, hi, fun r hr p hp => by
    obtain ⟨i, hi, e⟩ := List.getElem_of_mem hr
    have hi2 : i < n := by rw [← h.len]; exact hi
    obtain ⟨s, h1, v⟩ := h.el i hi2
    rw [List.getElem?_eq_getElem hi, e] at h1
    cases h1
    obtain ⟨j, hj, _, q2, q3⟩ := v.mem hp
    refine ⟨q2, ?_⟩
    have nn := nn i hi2 j hj
    rw [← q3] at nn
    by_cases l : p.1 < 0
    · have h1 : 0 < -(p.1) := by omega
      have h2 : rq (-(p.1), p.2) = - rq p := by
        have hne : p.2 ≠ 0 := by have := q2.1; omega
        rw [rq_div (p := p) hne, rq_div (p := (-(p.1), p.2)) hne]
        show ((-(p.1) : Int) : Rat) / _ = _
        rw [Rat.intCast_neg, Rat.div_def, Rat.div_def]
        grind
      have h3 := (rq_pos (x := (-(p.1), p.2)) q2.1).mpr h1
      rw [h2] at h3
      grind
    · omega⟩
theorem TT.wk {n b : Nat} {t : Tab} {M : Mat} {D : Nat → Int} {N : Nat → Nat → Int} (h : TT n t M) (ir : Irr n M) (F : RowF b n M D N) (lo : 1 ≤ n) (bn : n ≤ 5 ∧ b ≤ 464 ∨ n ≤ 6 ∧ b ≤ 380) : Wk n b t :=
  ⟨h.tabOk lo (by omega) ir.nn, ir.congr' fun i hi j hj => (h.mat hi hj).1.symm, ⟨D, N, F.congr fun i hi j hj => (h.mat hi hj).1.symm⟩, bn⟩
theorem TT.congr {n : Nat} {t : Tab} {M M' : Mat} (h : TT n t M) (e : ∀ i, i < n → ∀ j, j < n → M i j = M' i j) : TT n t M' := ⟨h.len, fun i hi => by
  obtain ⟨s, h1, h2⟩ := h.el i hi
  exact ⟨s, h1, h2.congr (e i hi)⟩⟩
theorem TT.eq {n : Nat} {t u : Tab} {M : Mat} (h : TT n t M) (g : TT n u M) : t = u := by
  refine List.ext_getElem? fun i => ?_
  rcases Nat.lt_or_ge i n with l | l
  · obtain ⟨p, p1, p2⟩ := h.el i l
    obtain ⟨q, q1, q2⟩ := g.el i l
    rw [p1, q1, rv_eq p2 q2]
  · rw [List.getElem?_eq_none (by rw [h.len]; exact l), List.getElem?_eq_none (by rw [g.len]; exact l)]
theorem Wk.tt {n b : Nat} {t : Tab} (h : Wk n b t) : TT n t (matT t) := TT.of h.ok
theorem Wk.bk {n b c : Nat} {t bt : Tab} (W : Wk n b t) (h : TT n bt (bk n (matT t))) (hc : (n - 1) * (b + 5) + 1 + b ≤ c) (bn : n ≤ 5 ∧ c ≤ 464 ∨ n ≤ 6 ∧ c ≤ 380) : Wk n c bt := by
  obtain ⟨D, N, F⟩ := W.row
  obtain ⟨D', N', F'⟩ := bk_row W.irr F (by have := W.hi; omega) W.ok.lo
  exact h.wk W.irr.bk (F'.up hc) W.ok.lo bn
end Lw

/-! KC: the program's leaving out of unknowns. -/
namespace MI
open PySem
theorem w_gtup2h {g1 g2 : MG} {a b : D} {c : Call} {ρ : Env} {S : Sto} {Q : Env → Sto → Prop} (q : Ok (g1 c a ρ) S fun ρ1 S1 => Ok (g2 c b ρ1) S1 Q) : Ok (MI.gTup [g1, g2] c (.tup [a, b]) ρ) S Q := by
  simp only [MI.gTup, ok_bind, ok_chk, MI.gList, ok_pure]
  exact ⟨rfl, q⟩
theorem s_addLL {xs ys : List D} {S : Sto} {Q : D → Sto → Prop} (l : xs.length + ys.length ≤ 1000) (q : Q (.lst (xs ++ ys)) S) : Ok (addA (.lst xs) (.lst ys)) S Q := by
  show Ok (M.bind (catL (.lst xs) (.lst ys)) fun xs => M.pure (.lst xs)) S Q
  refine s_bind ?_
  unfold catL
  refine s_bind (s_opt (a := xs) rfl ?_)
  refine s_bind (s_opt (a := ys) rfl ?_)
  refine s_bind (s_chk ?_ ?_)
  · exact decide_eq_true (by simp only [sizeLine]; omega)
  · exact s_pure (s_pure q)
theorem item_loc {S : Sto} {n j : Nat} {xs : List D} {x : D} (h : S[n]? = some (.lst xs)) (hx : xs[j]? = some x) : itemO S (.loc n) (.int j) = some x := by
  rw [itemO_items (xs := xs) (by show (match S[n]? with | some (.lst xs) => some xs | _ => none) = _; rw [h])]
  exact Lw.atI_nat hx
theorem items_loc {S : Sto} {n : Nat} {xs : List D} (h : S[n]? = some (.lst xs)) : itemsO S (.loc n) = some xs := by
  show (match S[n]? with | some (.lst xs) => some xs | _ => none) = _
  rw [h]
end MI
namespace Lw
open PySem MI
theorem at_19 : Fs[19]? = some F_answers_of := rfl
def rowL (r : List (Int × Int)) : D := .lst (r.map pd)
theorem pure_rowL : ∀ rs : List (List (Int × Int)), pureL (rs.map rowL) = true
  | [] => rfl
  | r :: rs => by
    show (pureL (r.map pd) && pureL (rs.map rowL)) = true
    rw [pure_pds, pure_rowL rs]
    rfl
theorem pure_rowD : ∀ rs : List (List (Int × Int)), pureL (rs.map rowD) = true
  | [] => rfl
  | r :: rs => by
    show (pureL (r.map pd) && pureL (rs.map rowD)) = true
    rw [pure_pds, pure_rowD rs]
    rfl
/-- rows with these values -/
structure TQ (n w : Nat) (rows : List (List (Int × Int))) (A : Mat) : Prop where
  len : rows.length = n
  row : ∀ i, i < n → ∃ r, rows[i]? = some r ∧ RV w r (A i)
theorem TQ.congr {n w : Nat} {rows : List (List (Int × Int))} {A B : Mat} (h : TQ n w rows A) (e : ∀ i, i < n → ∀ j, j < w → A i j = B i j) : TQ n w rows B := ⟨h.len, fun i hi => by
  obtain ⟨r, h1, h2⟩ := h.row i hi
  exact ⟨r, h1, h2.congr (e i hi)⟩⟩
theorem TQ.swap {n w p s : Nat} {rows : List (List (Int × Int))} {A : Mat} {rp rs : List (Int × Int)} (h : TQ n w rows A) (hp : p < n) (hs : s < n) (h1 : rows[p]? = some rp) (h2 : rows[s]? = some rs) : TQ n w ((rows.set p rs).set s rp) (swp p s A) := by
  refine ⟨by rw [List.length_set, List.length_set, h.len], fun i hi => ?_⟩
  have lp : p < rows.length := by rw [h.len]; exact hp
  have ls : s < rows.length := by rw [h.len]; exact hs
  obtain ⟨r1, a1, a2⟩ := h.row p hp
  obtain ⟨r2, b1, b2⟩ := h.row s hs
  rw [h1] at a1
  cases a1
  rw [h2] at b1
  cases b1
  have e : swp p s A i = if i = p then A s else if i = s then A p else A i := by
    funext j
    unfold swp
    split
    · rfl
    · split <;> rfl
  rw [e]
  by_cases e1 : i = s
  · subst e1
    refine ⟨rp, List.getElem?_set_self (by rw [List.length_set]; exact ls), ?_⟩
    by_cases e2 : i = p
    · subst e2
      rw [if_pos rfl]
      exact a2
    · rw [if_neg e2, if_pos rfl]
      exact a2
  · by_cases e2 : i = p
    · subst e2
      refine ⟨rs, by rw [List.getElem?_set_ne (Ne.symm e1), List.getElem?_set_self lp], ?_⟩
      rw [if_pos rfl]
      exact b2
    · obtain ⟨r, c1, c2⟩ := h.row i hi
      refine ⟨r, by rw [List.getElem?_set_ne (Ne.symm e1), List.getElem?_set_ne (Ne.symm e2)]; exact c1, ?_⟩
      rw [if_neg e2, if_neg e1]
      exact c2
theorem TQ.gj {n w p : Nat} {rows : List (List (Int × Int))} {A : Mat} {lead : List (Int × Int)} (h : TQ n w rows A) (hp : p < n) (hw : p < w) (hl : RV w lead (fun j => A p j / A p p)) : TQ n w ((rows.map fun r => lessL (r.getD p (0, 1)) r lead).set p lead) (Lw.gj p A) := by
  refine ⟨by rw [List.length_set, List.length_map, h.len], fun i hi => ?_⟩
  by_cases e : i = p
  · subst e
    refine ⟨lead, List.getElem?_set_self (by rw [List.length_map, h.len]; exact hi), hl.congr fun j _ => ?_⟩
    unfold Lw.gj
    rw [if_pos rfl]
  · obtain ⟨r, h1, h2⟩ := h.row i hi
    obtain ⟨b, b1, b2, b3⟩ := h2.2 p hw
    refine ⟨lessL (r.getD p (0, 1)) r lead, by rw [List.getElem?_set_ne (Ne.symm e), List.getElem?_map, h1]; rfl, ?_⟩
    rw [List.getD_eq_getElem?_getD, b1]
    refine (lessL_rv b2 h2 hl).congr fun j _ => ?_
    unfold Lw.gj
    rw [if_neg e]
    show A i j - rq b * _ = _
    rw [b3]
theorem rv_append {n w : Nat} {r s : List (Int × Int)} {f : Nat → Rat} (hr : RV n r f) (hs : RV w s (fun j => f (n + j))) : RV (n + w) (r ++ s) f := by
  refine ⟨by rw [List.length_append, hr.1, hs.1], fun i hi => ?_⟩
  rcases Nat.lt_or_ge i n with l | l
  · obtain ⟨p, h1, h2⟩ := hr.2 i l
    exact ⟨p, by rw [List.getElem?_append_left (by rw [hr.1]; exact l)]; exact h1, h2⟩
  · obtain ⟨p, h1, h2, h3⟩ := hs.2 (i - n) (by omega)
    refine ⟨p, by rw [List.getElem?_append_right (by rw [hr.1]; exact l), hr.1]; exact h1, h2, ?_⟩
    rw [h3, show n + (i - n) = i by omega]
theorem rv_drop {n w : Nat} {r : List (Int × Int)} {f : Nat → Rat} (h : RV (n + w) r f) : RV w (r.drop n) (fun j => f (n + j)) := by
  refine ⟨by rw [List.length_drop, h.1]; omega, fun i hi => ?_⟩
  obtain ⟨p, h1, h2⟩ := h.2 (n + i) (by omega)
  exact ⟨p, by rw [List.getElem?_drop]; exact h1, h2⟩
def joinL : List (List (Int × Int)) → List (List (Int × Int)) → List (List (Int × Int))
  | x :: xs, y :: ys => (x ++ y) :: joinL xs ys
  | _, _ => []
def joinH : D → Option D
  | .tup [x, y] => (itemsO [] x).bind fun a => (itemsO [] y).map fun b => .lst (a ++ b)
  | _ => none
theorem join_eq {tf rf : List (Int × Int) → D} (htf : ∀ S r, itemsO S (tf r) = some (r.map pd)) (hrf : ∀ S r, itemsO S (rf r) = some (r.map pd)) : ∀ xs ys : List (List (Int × Int)), (zipD (xs.map tf) (ys.map rf)).filterMap joinH = (joinL xs ys).map rowL
  | [], _ => rfl
  | _ :: _, [] => rfl
  | x :: xs, y :: ys => by
    show (D.tup [tf x, rf y] :: zipD (xs.map tf) (ys.map rf)).filterMap joinH = _
    rw [List.filterMap_cons_some (f := joinH) (a := D.tup [tf x, rf y]) (b := rowL (x ++ y)) (by
      show ((itemsO [] (tf x)).bind fun a => (itemsO [] (rf y)).map fun b => D.lst (a ++ b)) = _
      rw [htf, hrf]
      unfold rowL
      rw [List.map_append]
      rfl), join_eq htf hrf xs ys]
    rfl
theorem join_tq {n w : Nat} : ∀ {T Rs : List (List (Int × Int))} {A : Mat}, TQ n n T A → TQ n w Rs (fun i j => A i (n + j)) → TQ n (n + w) (joinL T Rs) A := by
  have key : ∀ (T Rs : List (List (Int × Int))), T.length = Rs.length → (joinL T Rs).length = T.length ∧ ∀ (i : Nat) (x y : List (Int × Int)), T[i]? = some x → Rs[i]? = some y → (joinL T Rs)[i]? = some (x ++ y) := by
    intro T
    induction T with
    | nil => exact fun Rs _ => ⟨by cases Rs <;> rfl, fun i x y h => by simp at h⟩
    | cons a T ih =>
      intro Rs hl
      cases Rs with
      | nil => simp at hl
      | cons b Rs =>
        obtain ⟨h1, h2⟩ := ih Rs (by simpa using hl)
        refine ⟨by show _ + 1 = _ + 1; rw [h1], fun i x y hx hy => ?_⟩
        cases i with
        | zero =>
          simp at hx hy
          subst hx hy
          rfl
        | succ i =>
          show (joinL T Rs)[i]? = _
          exact h2 i x y (by simpa using hx) (by simpa using hy)
  intro T Rs A h1 h2
  obtain ⟨k1, k2⟩ := key T Rs (by rw [h1.len, h2.len])
  refine ⟨by rw [k1, h1.len], fun i hi => ?_⟩
  obtain ⟨x, a1, a2⟩ := h1.row i hi
  obtain ⟨y, b1, b2⟩ := h2.row i hi
  exact ⟨_, k2 i x y a1 b1, rv_append a2 b2⟩
theorem zipD_map {tf rf : List (Int × Int) → D} : ∀ (xs ys : List (List (Int × Int))), ∀ z ∈ zipD (xs.map tf) (ys.map rf), ∃ x y, z = .tup [tf x, rf y] ∧ x ∈ xs ∧ y ∈ ys
  | [], _, z, h => nomatch h
  | _ :: _, [], z, h => nomatch h
  | x :: xs, y :: ys, z, h => by
    rcases List.mem_cons.mp h with e | h
    · exact ⟨x, y, e, List.mem_cons_self .., List.mem_cons_self ..⟩
    · obtain ⟨a, b, h1, h2, h3⟩ := zipD_map xs ys z h
      exact ⟨a, b, h1, List.mem_cons_of_mem _ h2, List.mem_cons_of_mem _ h3⟩
theorem TQ.mem {n w : Nat} {rows : List (List (Int × Int))} {A : Mat} (h : TQ n w rows A) {r : List (Int × Int)} (hr : r ∈ rows) : ∃ i, i < n ∧ rows[i]? = some r ∧ RV w r (A i) := by
  obtain ⟨i, e⟩ := List.mem_iff_getElem?.mp hr
  have hi : i < n := by rw [← h.len]; exact (List.getElem?_eq_some_iff.mp e).1
  obtain ⟨r2, h1, h2⟩ := h.row i hi
  rw [e] at h1
  cases h1
  exact ⟨i, hi, e, h2⟩
def spotH (rows : List (List (Int × Int))) (p : Nat) : D → Option D
  | .int j => if (((rows.getD j.toNat []).getD p (0, 1)).1 == 0 && ((rows.getD j.toNat []).getD p (0, 1)).2 == 1) = true then none else some (.int j)
  | _ => none
def leadH (x : Int × Int) (d : D) : Option D := some (pd (overS (pairOf d) x))
theorem lead_eq (x : Int × Int) (r : List (Int × Int)) : (r.map pd).filterMap (leadH x) = (r.map fun p => overS p x).map pd := by
  induction r with
  | nil => rfl
  | cons p r ih =>
    rw [List.map_cons, List.filterMap_cons_some (f := leadH x) (a := pd p) (b := pd (overS p x)) rfl, ih]
    rfl
def stepH (p : Nat) (lead : List (Int × Int)) (d : D) : Option D := (itemsO [] d).map fun xs => rowL (lessL ((xs.map pairOf).getD p (0, 1)) (xs.map pairOf) lead)
theorem pairs_pd (r : List (Int × Int)) : (r.map pd).map pairOf = r := by
  induction r with
  | nil => rfl
  | cons p r ih =>
    rw [List.map_cons, List.map_cons, ih]
    rfl
theorem stepH_row (p : Nat) (lead r : List (Int × Int)) : stepH p lead (rowL r) = some (rowL (lessL (r.getD p (0, 1)) r lead)) := by
  show some (rowL (lessL (((r.map pd).map pairOf).getD p (0, 1)) ((r.map pd).map pairOf) lead)) = _
  rw [pairs_pd]
theorem step_eq (p : Nat) (lead : List (Int × Int)) (rows : List (List (Int × Int))) : (rows.map rowL).filterMap (stepH p lead) = (rows.map fun r => lessL (r.getD p (0, 1)) r lead).map rowL := by
  induction rows with
  | nil => rfl
  | cons r rows ih =>
    rw [List.map_cons, List.filterMap_cons_some (f := stepH p lead) (stepH_row p lead r), ih]
    rfl
def tailH (n : Nat) (d : D) : Option D := (itemsO [] d).map fun xs => .tup (xs.drop n)
theorem tail_eq (n : Nat) (rows : List (List (Int × Int))) : (rows.map rowL).filterMap (tailH n) = (rows.map fun r => r.drop n).map rowD := by
  induction rows with
  | nil => rfl
  | cons r rows ih =>
    rw [List.map_cons, List.filterMap_cons_some (f := tailH n) (a := rowL r) (b := rowD (r.drop n)) (by
      show some (D.tup ((r.map pd).drop n)) = some (D.tup ((r.drop n).map pd))
      rw [List.map_drop]), ih]
    rfl
theorem spot_first {n w p : Nat} {rows : List (List (Int × Int))} {A : Mat} (h : TQ n w rows A) (hw : p < w) (ex : ∃ s, p ≤ s ∧ s < n ∧ A s p ≠ 0) : ∃ (s : Nat) (rest : List D), (rangeL (p : Int) (n - p)).filterMap (spotH rows p) = .int s :: rest ∧ p ≤ s ∧ s < n ∧ A s p ≠ 0 := by
  have val : ∀ s, s < n → ∃ q : Int × Int, (rows.getD s []).getD p (0, 1) = q ∧ red q ∧ rq q = A s p := fun s hs => by
    obtain ⟨r, h1, h2⟩ := h.row s hs
    obtain ⟨q, q1, q2, q3⟩ := h2.2 p hw
    refine ⟨q, ?_, q2, q3⟩
    have e : rows.getD s [] = r := by rw [List.getD_eq_getElem?_getD, h1]; rfl
    rw [e, List.getD_eq_getElem?_getD, q1]
    rfl
  have z : ∀ q : Int × Int, red q → ((q.1 == 0 && q.2 == 1) = true ↔ rq q = 0) := fun q hq => by
    constructor
    · intro e
      rw [Bool.and_eq_true] at e
      have e1 : q = (0, 1) := Prod.ext (by simpa using e.1) (by simpa using e.2)
      rw [e1]
      exact rq_zero
    · intro e
      have := rq_inj hq red_zero (e.trans rq_zero.symm)
      rw [this]
      rfl
  have key : ∀ m k, k + m = n → (∃ s, k ≤ s ∧ s < n ∧ A s p ≠ 0) → ∃ (s : Nat) (rest : List D), (rangeL (k : Int) m).filterMap (spotH rows p) = .int s :: rest ∧ k ≤ s ∧ s < n ∧ A s p ≠ 0 := by
    intro m
    induction m with
    | zero =>
      intro k hk ⟨s, h1, h2, _⟩
      omega
    | succ m ih =>
      intro k hk ⟨s, h1, h2, h3⟩
      obtain ⟨q, q1, q2, q3⟩ := val k (by omega)
      have er : rangeL (k : Int) (m + 1) = .int (k : Int) :: rangeL ((k + 1 : Nat) : Int) m := rfl
      have hh : spotH rows p (.int (k : Int)) = if (q.1 == 0 && q.2 == 1) = true then none else some (.int (k : Int)) := by
        show (if (((rows.getD ((k : Int)).toNat []).getD p (0, 1)).1 == 0 && ((rows.getD ((k : Int)).toNat []).getD p (0, 1)).2 == 1) = true then _ else _) = _
        rw [Int.toNat_natCast, q1]
      rw [er]
      by_cases e : (q.1 == 0 && q.2 == 1) = true
      · rw [if_pos e] at hh
        rw [List.filterMap_cons_none hh]
        have e0 : A k p = 0 := by rw [← q3]; exact (z q q2).mp e
        obtain ⟨s', rest, g1, g2, g3, g4⟩ := ih (k + 1) (by omega) ⟨s, by
          rcases Nat.eq_or_lt_of_le h1 with l | l
          · subst l
            exact absurd e0 h3
          · exact l, h2, h3⟩
        exact ⟨s', rest, g1, by omega, g3, g4⟩
      · rw [if_neg e] at hh
        rw [List.filterMap_cons_some hh]
        exact ⟨k, _, rfl, Nat.le_refl _, by omega, fun e0 => e ((z q q2).mpr (by rw [q3]; exact e0))⟩
  have := ex
  obtain ⟨s, h1, h2, h3⟩ := ex
  exact key (n - p) p (by omega) this
end Lw

/-! KD: answers_of. -/
namespace Lw
open PySem MI
theorem item_rowL {S : Sto} {r : List (Int × Int)} {j : Nat} {v : Int × Int} (h : r[j]? = some v) : itemO S (rowL r) (natD j) = some (pd v) := by
  show L2.atI (r.map pd) (j : Int) = _
  exact atI_nat (get_pd h)
theorem item_locN {S : Sto} {n j : Nat} {xs : List D} {x : D} (h : S[n]? = some (.lst xs)) (hx : xs[j]? = some x) : itemO S (.loc n) (natD j) = some x := item_loc h hx
theorem set_cell (S X : Sto) (p : Nat) (v : MO) : (S ++ X).set (S.length + p) v = S ++ X.set p v := by
  rw [List.set_append_right _ _ (by omega), Nat.add_sub_cancel_left]
theorem get_cell (S X : Sto) (p : Nat) : (S ++ X)[S.length + p]? = X[p]? := by
  rw [List.getElem?_append_right (by omega), Nat.add_sub_cancel_left]
theorem set_rowL (rows : List (List (Int × Int))) (p : Nat) (r : List (Int × Int)) : (rows.map rowL).set p (rowL r) = (rows.set p r).map rowL := by rw [List.map_set]
theorem cut_drop {α : Type} (xs : List α) (k : Nat) : cut xs (some (k : Int)) none = xs.drop k := by
  unfold cut
  rw [HT.sIx_none, HT.sIx_nat]
  rcases Nat.le_total k xs.length with l | l
  · rw [Nat.min_eq_left l]
    exact List.take_of_length_le (by rw [List.length_drop]; exact Nat.le_refl _)
  · rw [Nat.min_eq_right l, List.drop_eq_nil_of_le l, List.drop_eq_nil_of_le (Nat.le_refl _)]
    exact List.take_nil
theorem pure_lstR (X : List (List (Int × Int))) : pureD (.lst (X.map rowD)) = true := pure_rowD X
theorem ok_answers_of {k n w : Nat} {T Rs : List (List (Int × Int))} {tf rf : List (Int × Int) → D} {A0 : Mat} {S : Sto} {dT dR : D} {Q : D → Sto → Prop}
    (htf : ∀ S r, itemsO S (tf r) = some (r.map pd)) (hrf : ∀ S r, itemsO S (rf r) = some (r.map pd)) (hT : ∀ S', S.length ≤ S'.length → S'.take S.length = S → itemsO S' dT = some (T.map tf)) (hR : stillO dR = some (Rs.map rf))
    (tq : TQ n n T A0) (tr : TQ n w Rs fun i j => A0 i (n + j)) (n1 : 1 ≤ n) (n7 : n ≤ 7) (hw : w ≤ 20) (ns : NS n A0) {e : Nat} (he : e ≤ 2990) (szs : ∀ p σ A, p ≤ n → GK n (n + w) p σ A0 A → ∀ i, i < n → ∀ j, j < n + w → SB e (A i j))
    (q : ∀ (X : List (List (Int × Int))) (M : Mat), TQ n w X M → (∀ i, i < n → ∀ c, c < w → sumTo (fun j => A0 i j * M j c) n = A0 i (n + c)) → Q (.lst (X.map rowD)) S) : Ok (callF Fs (k + 4) 19 [dT, dR]) S Q := by
  have lT : (T.map tf).length = n := by rw [List.length_map, tq.len]
  have lR : (Rs.map rf).length = n := by rw [List.length_map, tr.len]
  have tq0 := join_tq tq tr
  with_reducible refine s_call at_19 (by with_unfolding_all rfl) ?_
  unfold F_answers_of
  dsimp only
  (repeat walk_at "mi")
  with_reducible refine w_compZ joinH ?_
  (repeat walk_at "mi")
  refine ⟨T.map tf, Rs.map rf, hT S (Nat.le_refl _) List.take_length, hR, by rw [lT, lR], rfl, by omega, fun z hz => ?_, ?_⟩
  · obtain ⟨x, y, rfl, hx, hy⟩ := zipD_map T Rs z hz
    obtain ⟨i1, _, _, v1⟩ := tq.mem hx
    obtain ⟨i2, _, _, v2⟩ := tr.mem hy
    with_reducible refine w_gtup2 ?_
    (repeat walk_at "mi")
    with_reducible refine s_items (htf _ _) ?_
    (repeat walk_at "mi")
    with_reducible refine s_items (hrf _ _) ?_
    (repeat walk_at "mi")
    with_reducible refine s_addLL (by rw [List.length_map, List.length_map, v1.1, v2.1]; omega) ?_
    (repeat walk_at "mi")
    refine ⟨?_, rfl⟩
    show ((itemsO [] (tf x)).bind fun a => (itemsO [] (rf y)).map fun b => D.lst (a ++ b)) = _
    rw [htf, hrf]
    rfl
  rw [join_eq htf hrf]
  generalize joinL T Rs = rows0 at tq0
  with_reducible refine s_new (pure_rowL _) ?_
  (repeat walk_at "mi")
  with_reducible refine w_b1 ⟨.int (n : Int), ?_, ?_⟩
  · rw [lenO_items (hT (S ++ [MO.lst (rows0.map rowL)]) (by rw [List.length_append]; omega) (by rw [List.take_append_of_le_length (Nat.le_refl _), List.take_length])), lT]
  (repeat walk_at "mi")
  with_reducible refine w_for (w_range1 ?_)
  (repeat walk_at "mi")
  refine ⟨(n : Int), rfl, ?_, _, rfl, ?_⟩
  · unfold inR
    exact decide_eq_true (by omega)
  rw [show ((n : Int)).toNat = n from rfl]
  refine ok_forFix (fun xs ρ S1 => ∃ (p : Nat) (X : Sto) (A : Mat) (rows : List (List (Int × Int))) (o4 o5 o6 : Option D), xs = rangeL (p : Int) (n - p) ∧ p ≤ n ∧ ρ = [some dT, some dR, some (.loc (S.length + p)), some (.int n), o4, o5, o6, none, none, none, none] ∧ S1 = S ++ X ∧ X.length = p + 1 ∧ X[p]? = some (.lst (rows.map rowL)) ∧ TQ n (n + w) rows A ∧ GJ n (n + w) p A0 A ∧ ∃ σ, GK n (n + w) p σ A0 A) _ _ _ ⟨0, [.lst (rows0.map rowL)], A0, rows0, none, none, none, rfl, Nat.zero_le _, rfl, rfl, rfl, rfl, tq0, GJ.start .., _, GK.start ..⟩ ?_ ?_
  · intro x xs ρ S1 ⟨p, X, A, rows, o4, o5, o6, e1, lp, e2, e3, lX, cX, tq, g, σ, gk⟩
    obtain ⟨lp2, e4, e5⟩ := rangeL_succ e1
    subst e2 e3 e4
    have c1 : (S ++ X)[S.length + p]? = some (.lst (rows.map rowL)) := by
      rw [List.getElem?_append_right (by omega), Nat.add_sub_cancel_left]
      exact cX
    have sz1 := szs p σ A lp gk
    have hrow : ∀ i, i < n → ∃ r, (rows.map rowL)[i]? = some (rowL r) ∧ rows[i]? = some r ∧ RV (n + w) r (A i) ∧ ∀ x ∈ r, fB e x := fun i hi => by
      obtain ⟨r, h1, h2⟩ := tq.row i hi
      exact ⟨r, by rw [List.getElem?_map, h1]; rfl, h1, h2, h2.fB (sz1 i hi)⟩
    (repeat walk_at "mi")
    with_reducible refine w_comp (spotH rows p) (w_range2 ?_)
    (repeat walk_at "mi")
    refine ⟨(p : Int), (n : Int), rfl, rfl, ?_, _, rfl, rfl, ?_, fun z hz => ?_, ?_⟩
    · unfold inR
      exact Bool.and_eq_true_iff.mpr ⟨decide_eq_true (by omega), decide_eq_true (by omega)⟩
    · rw [range_len2]
      simp only [sizeLine]
      omega
    · obtain ⟨u, hu, rfl⟩ := range_mem _ _ z hz
      obtain ⟨r, h1, h2, h3, h4⟩ := hrow (p + u) (by omega)
      obtain ⟨v, v1, v2, v3⟩ := h3.2 p (by omega)
      have ez : ((p : Int) + (u : Int)) = ((p + u : Nat) : Int) := rfl
      rw [ez]
      (repeat walk_at "mi")
      with_reducible refine w_getItem ⟨_, item_loc c1 h1, ?_⟩
      (repeat walk_at "mi")
      with_reducible refine w_getItem ⟨pd v, item_rowL v1, ?_⟩
      (repeat walk_at "mi")
      rw [eqv_pair]
      have hs : spotH rows p (.int ((p + u : Nat) : Int)) = if (v.1 == 0 && v.2 == 1) = true then none else some (.int ((p + u : Nat) : Int)) := by
        have e : rows.getD (p + u) [] = r := by rw [List.getD_eq_getElem?_getD, h2]; rfl
        have e2 : r.getD p (0, 1) = v := by rw [List.getD_eq_getElem?_getD, v1]; rfl
        show (if (((rows.getD ((p + u : Nat) : Int).toNat []).getD p (0, 1)).1 == 0 && ((rows.getD ((p + u : Nat) : Int).toNat []).getD p (0, 1)).2 == 1) = true then _ else _) = _
        rw [Int.toNat_natCast, e, e2]
      cases h : (v.1 == 0 && v.2 == 1) with
      | true => exact ⟨by rw [hs, h]; rfl, rfl⟩
      | false =>
        (repeat walk_at "mi")
        exact ⟨by rw [hs, h]; rfl, rfl⟩
    · obtain ⟨s, rest, f1, f2, f3, f4⟩ := spot_first tq (by omega) (g.pivot ns lp2 (by omega))
      rw [show ((n : Int) - (p : Int)).toNat = n - p by omega, f1]
      obtain ⟨rp, p1, p2, p3, p4⟩ := hrow p lp2
      obtain ⟨rs, s1, s2, s3, s4⟩ := hrow s f3
      (repeat walk_at "mi")
      with_reducible refine w_getItem ⟨.int (s : Int), ?_, ?_⟩
      · show L2.atI (D.int (s : Int) :: rest) ((0 : Nat) : Int) = _
        exact atI_nat rfl
      (repeat walk_at "mi")
      with_reducible refine w_getItem ⟨_, item_loc c1 s1, ?_⟩
      (repeat walk_at "mi")
      with_reducible refine w_getItem ⟨_, item_locN c1 p1, ?_⟩
      (repeat walk_at "mi")
      with_reducible refine w_gtup2h ?_
      with_reducible refine w_gsub ?_
      (repeat walk_at "mi")
      show Ok (setItem (.loc (S.length + p)) (.int ((p : Nat) : Int)) (rowL rs)) _ _
      with_reducible refine s_set c1 (ixN_nat (by rw [List.length_map, tq.len]; exact lp2)) (by rw [set_rowL]; exact pure_rowL _) ?_
      rw [set_rowL, set_cell]
      have c2 : (S ++ X.set p (.lst ((rows.set p rs).map rowL)))[S.length + p]? = some (.lst ((rows.set p rs).map rowL)) := by
        rw [get_cell]
        exact List.getElem?_set_self (by omega)
      (repeat walk_at "mi")
      with_reducible refine w_gsub ?_
      (repeat walk_at "mi")
      show Ok (setItem (.loc (S.length + p)) (.int ((s : Nat) : Int)) (rowL rp)) _ _
      with_reducible refine s_set c2 (ixN_nat (by rw [List.length_map, List.length_set, tq.len]; exact f3)) (by rw [set_rowL]; exact pure_rowL _) ?_
      rw [set_rowL, set_cell]
      have c3 : (S ++ (X.set p (.lst ((rows.set p rs).map rowL))).set p (.lst (((rows.set p rs).set s rp).map rowL)))[S.length + p]? = some (.lst (((rows.set p rs).set s rp).map rowL)) := by
        rw [get_cell]
        exact List.getElem?_set_self (by rw [List.length_set]; omega)
      have lX2 : ((X.set p (.lst ((rows.set p rs).map rowL))).set p (.lst (((rows.set p rs).set s rp).map rowL))).length = p + 1 := by rw [List.length_set, List.length_set]; exact lX
      have tq2 := tq.swap lp2 f3 p2 s2
      have sz2 : ∀ i, i < n → ∀ j, j < n + w → SB e (swp p s A i j) := fun i hi j hj => by
        unfold swp
        split
        · exact sz1 s f3 j hj
        · split
          · exact sz1 p lp2 j hj
          · exact sz1 i hi j hj
      have gk2 := gk.step lp2 (by omega) f2 f3 f4
      have a2 : swp p s A p p ≠ 0 := by
        show (if p = p then A s p else _) ≠ 0
        rw [if_pos rfl]
        exact f4
      have g2 := g.step lp2 f2 f3 f4
      generalize (X.set p (.lst ((rows.set p rs).map rowL))).set p (.lst (((rows.set p rs).set s rp).map rowL)) = X2 at c3 lX2 ⊢
      generalize (rows.set p rs).set s rp = rows2 at c3 tq2
      generalize swp p s A = A2 at tq2 sz2 a2 g2 gk2
      clear c1 c2 hrow tq sz1 gk g cX lX p1 p2 p3 p4 s1 s2 s3 s4
      have hrow : ∀ i, i < n → ∃ r, (rows2.map rowL)[i]? = some (rowL r) ∧ rows2[i]? = some r ∧ RV (n + w) r (A2 i) ∧ ∀ x ∈ r, fB e x := fun i hi => by
        obtain ⟨r, h1, h2⟩ := tq2.row i hi
        exact ⟨r, by rw [List.getElem?_map, h1]; rfl, h1, h2, h2.fB (sz2 i hi)⟩
      obtain ⟨rl, l1, l2, l3, l4⟩ := hrow p lp2
      obtain ⟨v, v1, v2, v3⟩ := l3.2 p (by omega)
      have vb : fB e v := l4 v (List.mem_of_getElem? v1)
      have v0 : v.1 ≠ 0 := fun e => a2 (by
        rw [← v3, rq_div (by have := v2.1; omega), e]
        show (0 : Rat) / _ = 0
        grind)
      (repeat walk_at "mi")
      with_reducible refine w_comp (leadH v) (w_iseq ?_)
      (repeat walk_at "mi")
      with_reducible refine w_getItem ⟨_, item_locN c3 l1, ?_⟩
      refine ⟨rl.map pd, rfl, _, rfl, rfl, by rw [List.length_map, l3.1]; simp only [sizeLine]; omega, fun z hz => ?_, ?_⟩
      · obtain ⟨y, hy, rfl⟩ := List.mem_map.mp hz
        (repeat walk_at "mi")
        with_reducible refine w_getItem ⟨_, item_locN c3 l1, ?_⟩
        (repeat walk_at "mi")
        with_reducible refine w_getItem ⟨pd v, item_rowL v1, ?_⟩
        (repeat walk_at "mi")
        with_reducible refine ok_over (l4 y hy) vb v0 (by omega) ?_
        (repeat walk_at "mi")
        exact ⟨rfl, rfl⟩
      rw [lead_eq]
      have ld : RV (n + w) (rl.map fun x => overS x v) (fun j => A2 p j / A2 p p) := ⟨by rw [List.length_map]; exact l3.1, fun j hj => by
        obtain ⟨x, x1, x2, x3⟩ := l3.2 j hj
        refine ⟨overS x v, by rw [List.getElem?_map, x1]; rfl, overS_red x2.1 v0, ?_⟩
        rw [overS_q x2.1 v2.1 v0, x3, v3]⟩
      have lb : ∀ x ∈ (rl.map fun x => overS x v), fB e x := ld.fB fun j hj => by
        have := szs (p + 1) _ _ lp2 gk2 p lp2 j hj
        unfold gj at this
        rw [if_pos rfl] at this
        exact this
      generalize (rl.map fun x => overS x v) = lead at ld lb
      (repeat walk_at "mi")
      with_reducible refine w_compI (stepH p lead) ?_
      (repeat walk_at "mi")
      refine ⟨rows2.map rowL, items_loc c3, rfl, by rw [List.length_map, tq2.len]; omega, fun z hz => ?_, ?_⟩
      · obtain ⟨r, hr, rfl⟩ := List.mem_map.mp hz
        obtain ⟨i, hi, _, hv⟩ := tq2.mem hr
        obtain ⟨u, u1, u2, u3⟩ := hv.2 p (by omega)
        have hb := hv.fB (sz2 i hi)
        (repeat walk_at "mi")
        with_reducible refine w_getItem ⟨pd u, item_rowL u1, ?_⟩
        (repeat walk_at "mi")
        show Ok (callF Fs (k + 3) 18 [.lst (r.map pd), .lst (lead.map pd), pd u]) _ _
        with_reducible refine ok_less_row (by omega) he hv ld u2 (hb u (List.mem_of_getElem? u1)) hb lb ?_
        (repeat walk_at "mi")
        refine ⟨?_, rfl⟩
        rw [stepH_row, List.getD_eq_getElem?_getD, u1]
        rfl
      rw [step_eq]
      with_reducible refine s_new (pure_rowL _) ?_
      have lS2 : (S ++ X2).length = S.length + (p + 1) := by rw [List.length_append, lX2]
      have c4 : (S ++ X2 ++ [MO.lst ((rows2.map fun r => lessL (r.getD p (0, 1)) r lead).map rowL)])[S.length + (p + 1)]? = some (.lst ((rows2.map fun r => lessL (r.getD p (0, 1)) r lead).map rowL)) := by
        rw [List.append_assoc, get_cell, ← lX2]
        simp
      rw [lS2]
      (repeat walk_at "mi")
      with_reducible refine w_gsub ?_
      (repeat walk_at "mi")
      show Ok (setItem (.loc (S.length + (p + 1))) (.int ((p : Nat) : Int)) (rowL lead)) _ _
      with_reducible refine s_set c4 (ixN_nat (by rw [List.length_map, List.length_map, tq2.len]; exact lp2)) (by rw [set_rowL]; exact pure_rowL _) ?_
      rw [set_rowL, List.append_assoc, set_cell]
      (repeat walk_at "mi")
      have tq4 := tq2.gj lp2 (by omega) ld
      refine ⟨p + 1, _, _, _, _, _, _, e5, lp2, rfl, rfl, by rw [List.length_set, List.length_append, lX2]; rfl, List.getElem?_set_self (by rw [List.length_append, lX2]; exact Nat.lt_succ_self _), tq4, g2, _, gk2⟩
  · intro ρ S1 ⟨p, X, A, rows, o4, o5, o6, e1, lp, e2, e3, lX, cX, tq, g, _⟩
    subst e2 e3
    have := rangeL_nil e1 lp
    subst this
    have c1 : (S ++ X)[S.length + p]? = some (.lst (rows.map rowL)) := by
      rw [get_cell]
      exact cX
    (repeat walk_at "mi")
    with_reducible refine w_compI (tailH p) ?_
    (repeat walk_at "mi")
    refine ⟨rows.map rowL, items_loc c1, rfl, by rw [List.length_map, tq.len]; omega, fun z hz => ?_, ?_⟩
    · obtain ⟨r, hr, rfl⟩ := List.mem_map.mp hz
      (repeat walk_at "mi")
      with_reducible refine w_slice ?_
      (repeat walk_at "mi")
      with_reducible refine w_osome ?_
      (repeat walk_at "mi")
      refine ⟨(p : Int), rfl, ?_⟩
      with_reducible refine w_onone ?_
      with_reducible refine s_slice ⟨.lst ((r.map pd).drop p), ?_, ?_⟩
      · show some (D.lst (cut (r.map pd) (some (p : Int)) none)) = _
        rw [cut_drop]
      (repeat walk_at "mi")
      exact ⟨rfl, rfl⟩
    rw [tail_eq]
    (repeat walk_at "mi")
    with_reducible refine s_finT (pure_lstR _) ?_
    rw [List.take_append_of_le_length (Nat.le_refl _), List.take_length]
    refine q (rows.map fun r => r.drop p) (fun i j => A i (p + j)) ⟨by rw [List.length_map]; exact tq.len, fun i hi => ?_⟩ fun i hi c hc => g.sol (c := p + c) (by omega) (by omega) i hi
    obtain ⟨r, h1, h2⟩ := tq.row i hi
    exact ⟨r.drop p, by rw [List.getElem?_map, h1]; rfl, rv_drop h2⟩
end Lw

/-! KE: shares_by. -/
namespace MI
open PySem
theorem w_zipS {f : ME} {c : Call} {ρ : Env} {S : Sto} {Q : D → Sto → Prop} (h : Ok (f c ρ) S fun d S1 => ∃ xs rs, itemsO S1 d = some xs ∧ rowsO xs = some rs ∧ (1 ≤ rs.length ∧ rs.length ≤ 8 ∧ 1 ≤ (rs.headD []).length ∧ (rs.headD []).length ≤ 1000 ∧ ∀ r ∈ rs, r.length = (rs.headD []).length) ∧ Q (.tup ((List.range (rs.headD []).length).map fun j => .tup (rs.map fun r => r[j]?.getD .non))) S1) : Ok (eZipS f c ρ) S Q := by
  simp only [eZipS, items, ok_bind, ok_opt, ok_ofO, ok_chk, ok_pure]
  refine h.mono fun d S1 ⟨xs, rs, e1, e2, e3, q⟩ => ⟨xs, e1, rs, e2, decide_eq_true e3, q⟩
end MI
namespace Lw
open PySem MI
theorem at_17 : Fs[17]? = some F_turned := rfl
theorem at_20 : Fs[20]? = some F_shares_by := rfl
theorem rowsO_tab : ∀ t : List (List (Int × Int)), rowsO (t.map rowD) = some (t.map fun r => r.map pd)
  | [] => rfl
  | r :: t => by
    show (rowsO (t.map rowD)).map _ = _
    rw [rowsO_tab t]
    rfl
theorem pure_tupR (X : List (List (Int × Int))) : pureD (.tup (X.map rowD)) = true := pure_rowD X
theorem ok_turned {k n : Nat} {t : Tab} {S : Sto} {Q : D → Sto → Prop} (ht : Sq n t) (n1 : 1 ≤ n) (n8 : n ≤ 8) (q : Q (.tup (((List.range n).map (colT t)).map rowD)) S) : Ok (callF Fs (k + 1) 17 [tabD t]) S Q := by
  have hd : ((t.map fun r => r.map pd).headD []).length = n := by
    cases t with
    | nil => have := ht.1; simp at this; omega
    | cons r t =>
      show (r.map pd).length = n
      rw [List.length_map]
      exact ht.2 r (List.mem_cons_self ..)
  with_reducible refine s_call at_17 (by with_unfolding_all rfl) ?_
  unfold F_turned
  dsimp only
  (repeat walk_at "mi")
  with_reducible refine w_zipS ?_
  (repeat walk_at "mi")
  refine ⟨t.map rowD, _, rfl, rowsO_tab t, ⟨by rw [List.length_map, ht.1]; exact n1, by rw [List.length_map, ht.1]; exact n8, by rw [hd]; exact n1, by rw [hd]; omega, fun r hr => ?_⟩, ?_⟩
  · obtain ⟨s, hs, rfl⟩ := List.mem_map.mp hr
    rw [hd, List.length_map]
    exact ht.2 s hs
  rw [hd]
  have e : ((List.range n).map fun j => D.tup ((t.map fun r => r.map pd).map fun r => r[j]?.getD .non)) = ((List.range n).map (colT t)).map rowD := by
    rw [List.map_map]
    refine List.map_congr_left fun j hj => ?_
    have hj : j < n := List.mem_range.mp hj
    show D.tup _ = D.tup ((colT t j).map pd)
    unfold colT
    rw [List.map_map, List.map_map]
    congr 1
    refine List.map_congr_left fun r hr => ?_
    show ((r.map pd)[j]?).getD .non = pd (r.getD j (0, 1))
    have l := ht.2 r hr
    rw [List.getD_eq_getElem?_getD, List.getElem?_map, List.getElem?_eq_getElem (by omega)]
    rfl
  rw [e]
  (repeat walk_at "mi")
  with_reducible refine s_fin (pure_tupR _) ?_
  exact q
/-- a row of the shares' equations -/
def eqR (j : Nat) : Nat → List (Int × Int) → List (Int × Int)
  | _, [] => []
  | a, p :: r => subF (if a = j then (1, 1) else (0, 1)) p :: eqR j (a + 1) r
def eqH (j : Nat) : D → Option D
  | .tup [.int a, p] => some (pd (subF (if a = (j : Int) then (1, 1) else (0, 1)) (pairOf p)))
  | _ => none
theorem eq_eq (j : Nat) : ∀ (r : List (Int × Int)) (a : Nat), (numb a (r.map pd)).filterMap (eqH j) = (eqR j a r).map pd
  | [], _ => rfl
  | p :: r, a => by
    show (D.tup [.int a, pd p] :: numb (a + 1) (r.map pd)).filterMap (eqH j) = _
    rw [List.filterMap_cons_some (f := eqH j) (a := D.tup [.int a, pd p]) (b := pd (subF (if a = j then (1, 1) else (0, 1)) p)) (by
      show some (pd (subF (if (a : Int) = (j : Int) then (1, 1) else (0, 1)) p)) = _
      by_cases e : a = j
      · rw [if_pos e, if_pos (by omega)]
      · rw [if_neg e, if_neg (by omega)]), eq_eq j r (a + 1)]
    rfl
theorem eqR_get (j : Nat) : ∀ (r : List (Int × Int)) (a i : Nat), (eqR j a r)[i]? = (r[i]?).map fun p => subF (if a + i = j then (1, 1) else (0, 1)) p
  | [], _, _ => rfl
  | p :: r, a, 0 => rfl
  | p :: r, a, i + 1 => by
    show (eqR j (a + 1) r)[i]? = _
    rw [eqR_get j r (a + 1) i, show a + 1 + i = a + (i + 1) by omega]
    rfl
theorem eqR_len (j : Nat) : ∀ (r : List (Int × Int)) (a : Nat), (eqR j a r).length = r.length
  | [], _ => rfl
  | p :: r, a => by
    show (eqR j (a + 1) r).length + 1 = _
    rw [eqR_len j r (a + 1)]
    rfl
theorem eqR_rv {n j : Nat} {r : List (Int × Int)} {f : Nat → Rat} (h : RV n r f) : RV n (eqR j 0 r) fun i => (if i = j then 1 else 0) - f i := ⟨by rw [eqR_len, h.1], fun i hi => by
  obtain ⟨p, h1, h2, h3⟩ := h.2 i hi
  refine ⟨_, by rw [eqR_get, h1]; rfl, subF_red (by split <;> decide) h2.1, ?_⟩
  rw [subF_q (by split <;> decide) h2.1, h3, Nat.zero_add]
  by_cases e : i = j
  · rw [if_pos e, if_pos e, rq_one]
  · rw [if_neg e, if_neg e, rq_zero]⟩
end Lw

/-! KF: shares_by. -/
namespace MI
open PySem
theorem s_appG {n : Nat} {xs : List D} {y : D} {S : Sto} {Q : D → Sto → Prop} (h : S[n]? = some (.lst xs)) (l : xs.length < 1000) (hp : pureL (xs ++ [y]) = true) (q : Q .non (S.set n (.lst (xs ++ [y])))) : Ok (appD (.loc n) y) S Q := by
  unfold appD
  refine s_bind (s_opt (a := (n, xs)) ?_ ?_)
  · show (match S[n]? with | some (.lst xs) => some (n, xs) | _ => none) = _
    rw [h]
  refine s_bind (s_chk (decide_eq_true (by simp only [sizeLine]; omega)) ?_)
  refine s_bind ?_
  unfold Ok putL
  rw [hp]
  exact q
theorem s_litG {n : Nat} {xs : List D} {S : Sto} {Q : List D → Sto → Prop} (h : S[n]? = some (.lst xs)) (q : Q xs S) : Ok (litems (.loc n)) S Q := s_opt (by show (match S[n]? with | some (.lst xs) => some xs | _ => none) = _; rw [h]) q
theorem rep_oneL {α : Type} (x : α) (n : Nat) : (List.replicate n [x]).flatten = List.replicate n x := by
  induction n with
  | zero => rfl
  | succ n ih => rw [List.replicate_succ, List.flatten_cons, ih, List.replicate_succ]; rfl
theorem s_mulLg {a : D} {n : Nat} {xs : List D} {S : Sto} {Q : D → Sto → Prop} (ha : isList a = true) (h : litemsO S a = some xs) (l : xs.length ≤ 1000) (l2 : n ≤ 1000) (q : Q (.lst (List.replicate n xs).flatten) S) : Ok (mulA a (.int n)) S Q := by
  unfold mulA
  rw [ha]
  show Ok (M.bind (repL a (.int n)) fun xs => M.pure (.lst xs)) S Q
  with_reducible refine s_bind ?_
  with_reducible refine s_repL h l l2 ?_
  exact q
theorem s_mulLL {x : D} {n : Nat} {S : Sto} {Q : D → Sto → Prop} (l2 : n ≤ 1000) (q : Q (.lst (List.replicate n x)) S) : Ok (mulA (.lst [x]) (.int n)) S Q := by
  have h1 : isList (.lst [x]) = true := rfl
  have h2 : litemsO S (.lst [x]) = some [x] := rfl
  have h3 : [x].length ≤ 1000 := by
    rw [List.length_singleton]
    omega
  have q2 : Q (.lst (List.replicate n [x]).flatten) S := by
    rw [rep_oneL]
    exact q
  with_reducible exact s_mulLg h1 h2 h3 l2 q2
end MI
namespace Lw
open PySem MI
def colsR (t : Tab) (i : Nat) : List (List (Int × Int)) := (List.range i).map fun j => eqR j 0 (colT t j)
theorem colsR_succ (t : Tab) (i : Nat) : colsR t i ++ [eqR i 0 (colT t i)] = colsR t (i + 1) := by
  unfold colsR
  rw [List.range_succ, List.map_append]
  rfl
def rightH : D → Option D
  | .int j => some (rowD [if j = 0 then (1, 1) else (0, 1)])
  | _ => none
def rightsR (n : Nat) : List (List (Int × Int)) := (List.range n).map fun j => [if j = 0 then (1, 1) else (0, 1)]
theorem rights_eq (n : Nat) : (rangeL 0 n).filterMap rightH = (rightsR n).map rowD := by
  rw [show (0 : Int) = ((0 : Nat) : Int) from rfl, rangeL_nats, ← List.range_eq_range', List.filterMap_map]
  unfold rightsR
  rw [List.map_map, ← List.filterMap_eq_map]
  congr 1
  funext j
  show some (rowD [if (j : Int) = 0 then (1, 1) else (0, 1)]) = some (rowD [if j = 0 then (1, 1) else (0, 1)])
  by_cases e : j = 0
  · rw [if_pos e, if_pos (by omega)]
  · rw [if_neg e, if_neg (by omega)]
def headH (d : D) : Option D := (itemsO [] d).bind fun xs => xs[0]?
theorem head_eq : ∀ (X : List (List (Int × Int))), (∀ r ∈ X, r.length = 1) → (X.map rowD).filterMap headH = (X.map fun r => r.getD 0 (0, 1)).map pd
  | [], _ => rfl
  | r :: X, h => by
    have l := h r (List.mem_cons_self ..)
    match r, l with
    | [p], _ =>
      rw [List.map_cons, List.filterMap_cons_some (f := headH) (a := rowD [p]) (b := pd p) rfl, head_eq X fun s hs => h s (List.mem_cons_of_mem _ hs)]
      rfl
theorem numb_mem2 : ∀ (r : List (Int × Int)) (k : Nat), ∀ x ∈ numb k (r.map pd), ∃ (i : Nat) (p : Int × Int), x = .tup [.int i, pd p] ∧ p ∈ r
  | [], _, x, h => by cases h
  | p :: r, k, x, h => by
    rcases List.mem_cons.mp h with e | h
    · exact ⟨k, p, e, List.mem_cons_self ..⟩
    · obtain ⟨i, q, e, hq⟩ := numb_mem2 r (k + 1) x h
      exact ⟨i, q, e, List.mem_cons_of_mem _ hq⟩
theorem colT_fB {n B j : Nat} {t : Tab} (ht : Sq n t) (hj : j < n) (ps : ∀ r ∈ t, ∀ p ∈ r, fB B p) : ∀ p ∈ colT t j, fB B p := fun p hp => by
  obtain ⟨r, hr, rfl⟩ := List.mem_map.mp hp
  have l := ht.2 r hr
  rw [List.getD_eq_getElem?_getD, List.getElem?_eq_getElem (by omega)]
  exact ps r hr _ (List.getElem_mem _)
theorem fB_one : fB 1 (1, 1) := ⟨by decide, by decide, by decide⟩
theorem fB_nought : fB 1 (0, 1) := ⟨by decide, by decide, by decide⟩
theorem keep_cell {S S' : Sto} {xs : List D} (e : S'.take (S ++ [MO.lst xs]).length = S ++ [MO.lst xs]) : itemsO S' (.loc S.length) = some xs := by
  have h : (S'.take (S ++ [MO.lst xs]).length)[S.length]? = some (.lst xs) := by
    rw [e]
    simp
  rw [List.getElem?_take_of_lt (by rw [List.length_append]; exact Nat.lt_succ_self _)] at h
  exact items_loc h
theorem item_one {S : Sto} (p : Int × Int) : itemO S (rowD [p]) (.int 0) = some (pd p) := by
  show L2.atI ([p].map pd) ((0 : Nat) : Int) = _
  exact atI_nat rfl
theorem pure_tupP (r : List (Int × Int)) : pureD (.tup (r.map pd)) = true := pure_pds r
theorem set_last (S : Sto) (a b : MO) : (S ++ [a]).set S.length b = S ++ [b] := by
  rw [List.set_append_right _ _ (Nat.le_refl _), Nat.sub_self]
  rfl
theorem eqs_tq {n : Nat} {t : Tab} (ht : TabOk n t) : TQ n n ((colsR t n).set 0 (List.replicate n (1, 1))) (eqs n (matT t)) := by
  have n1 := ht.lo
  refine ⟨by rw [List.length_set]; unfold colsR; rw [List.length_map, List.length_range], fun i hi => ?_⟩
  by_cases e : i = 0
  · subst e
    refine ⟨List.replicate n (1, 1), List.getElem?_set_self (by unfold colsR; rw [List.length_map, List.length_range]; exact hi), by rw [List.length_replicate], fun j hj => ⟨(1, 1), by rw [List.getElem?_replicate, if_pos hj], red_one, ?_⟩⟩
    unfold eqs
    rw [if_pos hj, if_pos rfl]
    exact rq_one
  · refine ⟨eqR i 0 (colT t i), by rw [List.getElem?_set_ne (Ne.symm e)]; unfold colsR; rw [List.getElem?_map, List.getElem?_range hi]; rfl, (eqR_rv (col_rv (TT.of ht) hi)).congr fun j hj => ?_⟩
    unfold eqs
    rw [if_pos hj, if_neg e]
theorem rights_tq (n : Nat) (P : Mat) : TQ n 1 (rightsR n) fun i j => eqs n P i (n + j) := by
  refine ⟨by unfold rightsR; rw [List.length_map, List.length_range], fun i hi => ?_⟩
  refine ⟨_, by unfold rightsR; rw [List.getElem?_map, List.getElem?_range hi]; rfl, rfl, fun j hj => ?_⟩
  have : j = 0 := by omega
  subst this
  refine ⟨_, rfl, by split; exact red_one; exact red_zero, ?_⟩
  show _ = eqs n P i n
  unfold eqs
  rw [if_neg (Nat.lt_irrefl _)]
  split
  · exact rq_one
  · exact rq_zero
theorem ok_shares_by {k n : Nat} {t : Tab} {S : Sto} {Q : D → Sto → Prop} {b : Nat} (W : Wk n b t) (q : ∀ ss : List (Int × Int), RV n ss (sh n (matT t)) → Q (rowD ss) S) : Ok (callF Fs (k + 5) 20 [tabD t]) S Q := by
  have ht := W.ok
  have n1 := ht.lo
  have n5 := W.hi
  have bl := W.bn
  have ps := W.fB
  obtain ⟨Dn, N0, F⟩ := W.row
  have esz : n * (b + 5) + b + 5 ≤ 2990 := by
    have n6 : n = 1 ∨ n = 2 ∨ n = 3 ∨ n = 4 ∨ n = 5 ∨ n = 6 := by omega
    rcases n6 with e | e | e | e | e | e <;> subst e <;> omega
  have hl : (t.map rowD).length = n := by rw [List.length_map, ht.sq.1]
  with_reducible refine s_call at_20 (by with_unfolding_all rfl) ?_
  unfold F_shares_by
  dsimp only
  (repeat walk_at "mi")
  with_reducible refine s_new (by with_unfolding_all rfl) ?_
  (repeat walk_at "mi")
  with_reducible refine w_for (w_enum ?_)
  (repeat walk_at "mi")
  with_reducible refine ok_turned ht.sq n1 (by omega) ?_
  (repeat walk_at "mi")
  refine ⟨_, rfl, ?_⟩
  refine ok_forFix (fun xs ρ S1 => ∃ (i : Nat) (o3 o4 : Option D), xs = numb i ((((List.range n).map (colT t)).map rowD).drop i) ∧ i ≤ n ∧ ρ = [some (tabD t), some (.loc S.length), none, o3, o4, none, none, none] ∧ S1 = S ++ [.lst ((colsR t i).map rowL)]) _ _ _ ⟨0, none, none, rfl, Nat.zero_le _, rfl, rfl⟩ ?_ ?_
  · intro x xs ρ S1 ⟨i, o3, o4, e1, li, e2, e3⟩
    subst e2 e3
    have hi : i < n := by
      rcases Nat.lt_or_ge i n with l | l
      · exact l
      · rw [List.drop_eq_nil_of_le (by rw [List.length_map, List.length_map, List.length_range]; exact l)] at e1
        cases e1
    have hg : (((List.range n).map (colT t)).map rowD)[i]? = some (rowD (colT t i)) := by
      rw [List.getElem?_map, List.getElem?_map, List.getElem?_range hi]
      rfl
    have e4 : (((List.range n).map (colT t)).map rowD).drop i = rowD (colT t i) :: (((List.range n).map (colT t)).map rowD).drop (i + 1) := by
      have l : i < (((List.range n).map (colT t)).map rowD).length := by rw [List.length_map, List.length_map, List.length_range]; exact hi
      rw [List.drop_eq_getElem_cons l]
      rw [List.getElem?_eq_getElem l] at hg
      rw [Option.some.inj hg]
    rw [e4] at e1
    obtain ⟨rfl, rfl⟩ := List.cons.inj e1
    have cv := col_rv (TT.of ht) hi
    with_reducible refine w_gtup2 ?_
    (repeat walk_at "mi")
    have cb := colT_fB ht.sq hi ps
    have cell : (S ++ [MO.lst ((colsR t i).map rowL)])[S.length]? = some (.lst ((colsR t i).map rowL)) := by simp
    with_reducible refine s_litG cell ?_
    (repeat walk_at "mi")
    with_reducible refine w_comp (eqH i) (w_enum ?_)
    (repeat walk_at "mi")
    refine ⟨_, rfl, rfl, by rw [numb_len, List.length_map, cv.1]; simp only [sizeLine]; omega, fun z hz => ?_, ?_⟩
    · obtain ⟨a, p, rfl, hp⟩ := numb_mem2 _ _ z hz
      with_reducible refine w_gtup2 ?_
      (repeat walk_at "mi")
      have hh : eqH i (.tup [.int a, pd p]) = some (pd (subF (if (a : Int) = (i : Int) then (1, 1) else (0, 1)) p)) := rfl
      cases h : ((a : Int) == (i : Int)) with
      | true =>
        rw [if_pos (by simpa using h)] at hh
        (repeat walk_at "mi")
        show Ok (callF Fs (k + 4) 7 [pd (1, 1), pd p]) _ _
        with_reducible refine ok_minus (n := 1) (m := b) fB_one (cb p hp) (by omega) ?_
        exact ⟨hh, rfl⟩
      | false =>
        rw [if_neg (by simpa using h)] at hh
        (repeat walk_at "mi")
        show Ok (callF Fs (k + 4) 7 [pd (0, 1), pd p]) _ _
        with_reducible refine ok_minus (n := 1) (m := b) fB_nought (cb p hp) (by omega) ?_
        exact ⟨hh, rfl⟩
    · rw [eq_eq]
      (repeat walk_at "mi")
      have e5 : (colsR t i).map rowL ++ [rowL (eqR i 0 (colT t i))] = (colsR t (i + 1)).map rowL := by
        rw [← colsR_succ, List.map_append]
        rfl
      show Ok (appD (.loc S.length) (rowL (eqR i 0 (colT t i)))) _ _
      with_reducible refine s_appG cell (by unfold colsR; rw [List.length_map, List.length_map, List.length_range]; omega) (by rw [e5]; exact pure_rowL _) ?_
      rw [e5]
      (repeat walk_at "mi")
      exact ⟨i + 1, _, _, rfl, hi, rfl, set_last _ _ _⟩
  · intro ρ S1 ⟨i, o3, o4, e1, li, e2, e3⟩
    subst e2 e3
    have hi : i = n := by
      rcases Nat.lt_or_ge i n with l | l
      · have l : i < (((List.range n).map (colT t)).map rowD).length := by rw [List.length_map, List.length_map, List.length_range]; exact l
        rw [List.drop_eq_getElem_cons l] at e1
        cases e1
      · omega
    subst hi
    clear e1
    (repeat walk_at "mi")
    rw [hl]
    with_reducible refine s_mulLL (by omega) ?_
    have e6 : D.lst (List.replicate i (D.tup [.int 1, .int 1])) = rowL (List.replicate i (1, 1)) := by
      unfold rowL
      rw [List.map_replicate]
      rfl
    rw [e6]
    with_reducible refine w_gsub ?_
    (repeat walk_at "mi")
    have cell : (S ++ [MO.lst ((colsR t i).map rowL)])[S.length]? = some (.lst ((colsR t i).map rowL)) := by simp
    show Ok (setItem (.loc S.length) (.int ((0 : Nat) : Int)) (rowL (List.replicate i (1, 1)))) _ _
    with_reducible refine s_set cell (ixN_nat (by unfold colsR; rw [List.length_map, List.length_map, List.length_range]; omega)) (by rw [set_rowL]; exact pure_rowL _) ?_
    rw [set_rowL, set_last]
    have tq := eqs_tq ht
    generalize (colsR t i).set 0 (List.replicate i (1, 1)) = T at tq
    (repeat walk_at "mi")
    with_reducible refine w_comp rightH (w_range1 ?_)
    (repeat walk_at "mi")
    refine ⟨(i : Int), by rw [hl], ?_, _, rfl, rfl, ?_, fun z hz => ?_, ?_⟩
    · unfold inR
      exact decide_eq_true (by omega)
    · rw [Int.toNat_natCast, range_len2]
      simp only [sizeLine]
      omega
    · obtain ⟨u, hu, rfl⟩ := range_mem _ _ z hz
      rw [Int.zero_add]
      (repeat walk_at "mi")
      have hh : rightH (.int (u : Int)) = some (rowD [if (u : Int) = 0 then (1, 1) else (0, 1)]) := rfl
      cases h : ((u : Int) == 0) with
      | true =>
        rw [if_pos (by simpa using h)] at hh
        (repeat walk_at "mi")
        exact ⟨hh, rfl⟩
      | false =>
        rw [if_neg (by simpa using h)] at hh
        (repeat walk_at "mi")
        exact ⟨hh, rfl⟩
    rw [Int.toNat_natCast, rights_eq]
    (repeat walk_at "mi")
    with_reducible refine w_comp headH (w_iseq ?_)
    (repeat walk_at "mi")
    with_reducible refine ok_answers_of (tf := rowL) (rf := rowD) (T := T) (Rs := rightsR i) (fun _ _ => rfl) (fun _ _ => rfl) (fun S' _ e => keep_cell e) (by with_unfolding_all rfl) tq (rights_tq i (matT t)) n1 (by omega) (by omega) (W.irr.eqs_ns n1) (Nat.le_refl 2990) (eqs_sz F n1 (by omega) esz) fun X M hX sol => ?_
    have len1 : ∀ r ∈ X, r.length = 1 := fun r hr => by
      obtain ⟨_, _, _, v⟩ := hX.mem hr
      exact v.1
    (repeat walk_at "mi")
    refine ⟨_, rfl, rfl, by rw [List.length_map, hX.len]; simp only [sizeLine]; omega, fun z hz => ?_, ?_⟩
    · obtain ⟨r, hr, rfl⟩ := List.mem_map.mp hz
      have l := len1 r hr
      match r, l with
      | [p], _ =>
        (repeat walk_at "mi")
        exact ⟨rfl, rfl⟩
    rw [head_eq X len1]
    (repeat walk_at "mi")
    with_reducible refine s_finT (pure_tupP _) ?_
    rw [List.take_append_of_le_length (Nat.le_refl _), List.take_length]
    refine q _ ⟨by rw [List.length_map]; exact hX.len, fun j hj => ?_⟩
    obtain ⟨r, h1, h2⟩ := hX.row j hj
    obtain ⟨p, p1, p2, p3⟩ := h2.2 0 (by omega)
    refine ⟨p, ?_, p2, ?_⟩
    · rw [List.getElem?_map, h1]
      show some (r.getD 0 (0, 1)) = _
      rw [List.getD_eq_getElem?_getD, p1]
      rfl
    · rw [p3]
      exact W.irr.eqs_sh n1 (fun a ha => sol a ha 0 (by omega)) j hj
end Lw

/-! KI: shares_of. -/
namespace Lw
open PySem MI
theorem at_24 : Fs[24]? = some F_check_walk := rfl
theorem ok_check_walk {k : Nat} {d : D} {S : Sto} {Q : D → Sto → Prop} (hd : pureD d = true) (hi : inD 600 d) (hw : isWalk d = true) (q : Q .non S) : Ok (callF Fs (k + 6) 24 [d]) S Q := by
  with_reducible refine s_call at_24 (by with_unfolding_all rfl) ?_
  unfold F_check_walk
  dsimp only
  (repeat walk_at "mi")
  with_reducible refine ok_is_walk_by hd hi ?_
  rw [hw]
  (repeat walk_at "mi")
  exact q
theorem fine_fB {n : Nat} {t : Tab} (h : Fine n t) : ∀ i j, i < n → j < n → fB 250 (ent t i j) := fun i j hi hj => by
  obtain ⟨r, hr, hrm, hrl, hp, hpm⟩ := ent_get h.ok.sq hi hj
  have h1 := inD_tup.mp (inD_tup.mp (inD_tup.mp h.big (rowD r) (List.mem_map.mpr ⟨r, hrm, rfl⟩)) (pd (ent t i j)) (List.mem_map.mpr ⟨_, hpm, rfl⟩))
  exact ⟨(h.ok.fr r hrm _ hpm).1.1, h1 (.int (ent t i j).1) (by simp), h1 (.int (ent t i j).2) (by simp)⟩
theorem isWalk_fine {n : Nat} {t : Tab} (h : Fine n t) : isWalk (tabD t) = true := by
  unfold isWalk
  rw [tab_to h.ok, tabOf_tab, h.sums, h.ok.sq.1, h.whole]
  rfl
end Lw

/-! NB: comprehensions item by item; texts of data that can be shown. -/
namespace MI
open PySem
/-- items one by one -/
structure Co (n : Nat) (P : Nat → D → Prop) (xs : List D) : Prop where
  len : xs.length = n
  el : ∀ i, i < n → ∃ x, xs[i]? = some x ∧ P i x
theorem w_compN {s : MI} {own : List Nat} {γ : MG} {e : ME} {c : Call} {ρ : Env} {S : Sto} {Q : List D → Sto → Prop} (n : Nat) (P : Nat → D → Prop) (h : Ok (s c ρ) S fun z S1 => ∃ xs : List D, z = .fix xs ∧ S1 = S ∧ xs.length = n ∧ n < 1000 ∧
    (∀ i x, i < n → xs[i]? = some x → Ok (γ c x (wipeE ρ own)) S fun ρ2 S1 => Ok (e c ρ2) S1 fun y S2 => P i y ∧ S2 = S) ∧ ∀ ys, Co n P ys → Q ys S) : Ok (lComp s own γ tYes e c ρ) S Q := by
  refine w_compFI ?_
  refine h.mono fun z S1 ⟨xs, e1, e2, e3, n9, hx, q⟩ => ?_
  subst e1 e2
  refine ⟨xs, fun r acc S2 => S2 = S1 ∧ acc.length ≤ n ∧ r = xs.drop acc.length ∧ ∀ i, i < acc.length → ∃ y, acc[i]? = some y ∧ P i y, rfl, ⟨rfl, Nat.zero_le _, rfl, fun i hi => absurd hi (Nat.not_lt_zero _)⟩, ?_, ?_⟩
  · intro x r acc S2 ⟨e4, l, e5, el⟩
    subst e4
    have hl : acc.length < xs.length := by
      rcases Nat.lt_or_ge acc.length xs.length with l | l
      · exact l
      · rw [List.drop_eq_nil_of_le l] at e5
        cases e5
    have hg : xs[acc.length]? = some xs[acc.length] := List.getElem?_eq_getElem hl
    rw [List.drop_eq_getElem_cons hl] at e5
    obtain ⟨e6, e7⟩ := List.cons.inj e5
    rw [← e6] at hg
    refine ⟨by omega, (hx acc.length x (by omega) hg).mono fun ρ2 S3 h2 => ?_⟩
    refine w_tyes ?_
    refine Ok.mono h2 fun y S4 ⟨py, e8⟩ => ?_
    subst e8
    refine ⟨rfl, by rw [List.length_append, List.length_singleton]; omega, by rw [List.length_append, List.length_singleton]; exact e7, fun i hi => ?_⟩
    rw [List.length_append, List.length_singleton] at hi
    rcases Nat.lt_or_ge i acc.length with l2 | l2
    · obtain ⟨u, u1, u2⟩ := el i l2
      exact ⟨u, by rw [List.getElem?_append_left l2]; exact u1, u2⟩
    · have : i = acc.length := by omega
      subst this
      exact ⟨y, by rw [List.getElem?_append_right (Nat.le_refl _), Nat.sub_self]; rfl, py⟩
  · intro acc S2 ⟨e4, l, e5, el⟩
    subst e4
    have hl : acc.length = n := by
      rcases Nat.lt_or_ge acc.length xs.length with l | l
      · rw [List.drop_eq_getElem_cons l] at e5
        cases e5
      · omega
    refine q acc ⟨hl, fun i hi => el i (by omega)⟩
theorem Co.mem {n : Nat} {P : Nat → D → Prop} {xs : List D} (h : Co n P xs) {x : D} (hx : x ∈ xs) : ∃ i, i < n ∧ P i x := by
  obtain ⟨i, hi, e⟩ := List.getElem_of_mem hx
  obtain ⟨y, h1, h2⟩ := h.el i (by rw [← h.len]; exact hi)
  rw [List.getElem?_eq_getElem hi, e] at h1
  cases h1
  exact ⟨i, by rw [← h.len]; exact hi, h2⟩
theorem range_get {n i : Nat} (h : i < n) : (rangeL 0 n)[i]? = some (.int (i : Nat)) := by
  rw [show (0 : Int) = ((0 : Nat) : Int) from rfl]
  have : ∀ (n k i : Nat), i < n → (rangeL (k : Int) n)[i]? = some (.int ((k + i : Nat) : Int)) := fun n => by
    induction n with
    | zero => intro k i h; omega
    | succ n ih =>
      intro k i h
      cases i with
      | zero => rfl
      | succ i =>
        show (rangeL ((k : Int) + 1) n)[i]? = _
        rw [show (k : Int) + 1 = ((k + 1 : Nat) : Int) from rfl, ih (k + 1) i (by omega), show k + 1 + i = k + (i + 1) by omega]
  rw [this n 0 i h, Nat.zero_add]
theorem zip_get : ∀ (xs ys : List D) (i : Nat) (x y : D), xs[i]? = some x → ys[i]? = some y → (zipD xs ys)[i]? = some (.tup [x, y])
  | [], _, _, _, _, h, _ => by simp at h
  | _ :: _, [], _, _, _, _, h => by simp at h
  | a :: xs, b :: ys, 0, x, y, h1, h2 => by
    simp at h1 h2
    subst h1 h2
    rfl
  | a :: xs, b :: ys, i + 1, x, y, h1, h2 => by
    show (zipD xs ys)[i]? = _
    exact zip_get xs ys i x y (by simpa using h1) (by simpa using h2)
/-! what repr shows -/
def Shw (n m : Nat) (d : D) : Prop := ∀ S : Sto, ∃ p, toPy S d = some p ∧ p.showable = true ∧ p.hasDict = false ∧ p.depth ≤ m ∧ p.shown.length ≤ n
theorem Shw.up {n m n' m' : Nat} {d : D} (h : Shw n m d) (l1 : n ≤ n') (l2 : m ≤ m') : Shw n' m' d := fun S => by
  obtain ⟨p, h1, h2, h3, h4, h5⟩ := h S
  exact ⟨p, h1, h2, h3, by omega, by omega⟩
theorem Shw.bl (b : Bool) : Shw 5 1 (.bl b) := fun S => ⟨.bool b, rfl, rfl, rfl, by simp [PyData.depth], by cases b <;> decide⟩
theorem log_of {i : Int} (h : i.natAbs < 2 ^ 1900) : i.natAbs.log2 < 1920 := by
  by_cases z : i.natAbs = 0
  · rw [z]; decide
  · have := (Nat.log2_lt z).mpr h
    omega
theorem Shw.int {i : Int} (h : i.natAbs < 2 ^ 1900) : Shw 1921 1 (.int i) := fun S => ⟨.int i, rfl, decide_eq_true (log_of h), rfl, by simp [PyData.depth], PyProof.Rows.int_text_len_1921 (log_of h)⟩
theorem textFrom_le : ∀ (ts : List Str) (k : Nat) (acc : Str), (textFrom k acc ts).length ≤ acc.length + piled ts
  | [], k, acc => Nat.le_refl _
  | t :: r, k, acc => by
    have h := textFrom_le r (k + 1) (acc ++ (if k > 0 then ", " else "" : String) ++ t)
    have e : (acc ++ (if k > 0 then ", " else "" : String) ++ t).length = acc.length + (if k > 0 then 2 else 0) + t.length := by
      rw [strLen_append, strLen_append]
      split <;> rfl
    rw [e] at h
    rw [piled_cons]
    have hle : (if k > 0 then 2 else 0) ≤ 2 := by split <;> omega
    show (textFrom (k + 1) _ r).length ≤ _
    omega
theorem listText_le (ts : List Str) : (listText ts).length ≤ piled ts + 2 := by
  unfold listText
  rw [strLen_append]
  have := textFrom_le ts 0 "["
  have e1 : (("[" : String) : Str).length = 1 := rfl
  have e2 : (("]" : String) : Str).length = 1 := rfl
  omega
theorem tupleText_le (ts : List Str) : (tupleText ts).length ≤ piled ts + 3 := by
  by_cases h : ts = []
  · subst h
    decide
  unfold tupleText
  rw [strLen_append, strLen_append]
  have := join_length_add ts h
  have e1 : (("(" : String) : Str).length = 1 := rfl
  have e2 : ((if ts.length == 1 then ",)" else ")" : String) : Str).length ≤ 2 := by
    split
    · exact Nat.le_refl _
    · exact Nat.le_succ _
  omega
theorem shw_all {n m : Nat} (S : Sto) : ∀ xs : List D, (∀ x ∈ xs, Shw n m x) → ∃ ps, toPys S xs = some ps ∧ PyData.showableAll ps = true ∧ PyData.hasDictAll ps = false ∧ PyData.depthAll ps ≤ m ∧ piled (PyData.shownAll ps) ≤ xs.length * (n + 2)
  | [], _ => ⟨[], rfl, rfl, rfl, by simp [PyData.depthAll], Nat.zero_le _⟩
  | x :: xs, h => by
    obtain ⟨p, h1, h2, h3, h4, h5⟩ := h x (List.mem_cons_self ..) S
    obtain ⟨ps, g1, g2, g3, g4, g5⟩ := shw_all S xs fun y hy => h y (List.mem_cons_of_mem _ hy)
    refine ⟨p :: ps, ?_, ?_, ?_, ?_, ?_⟩
    · show ((toPy S x).bind fun y => (toPys S xs).map fun ys => y :: ys) = _
      rw [h1, g1]
      rfl
    · show (PyData.showable p && PyData.showableAll ps) = true
      rw [h2, g2]
      rfl
    · show (PyData.hasDict p || PyData.hasDictAll ps) = false
      rw [h3, g3]
      rfl
    · simp only [PyData.depthAll]
      omega
    · show piled (PyData.shown p :: PyData.shownAll ps) ≤ _
      rw [piled_cons, List.length_cons, Nat.succ_mul]
      omega
theorem Shw.tup {n m k : Nat} {xs : List D} (h : ∀ x ∈ xs, Shw n m x) (l : xs.length ≤ k) : Shw (k * (n + 2) + 3) (m + 1) (.tup xs) := fun S => by
  obtain ⟨ps, g1, g2, g3, g4, g5⟩ := shw_all S xs h
  refine ⟨.tuple ps, ?_, g2, g3, ?_, ?_⟩
  · show (toPys S xs).map PyData.tuple = _
    rw [g1]
    rfl
  · simp only [PyData.depth]
    omega
  · have := tupleText_le (PyData.shownAll ps)
    have := Nat.mul_le_mul_right (n + 2) l
    show (tupleText (PyData.shownAll ps)).length ≤ _
    omega
theorem Shw.lst {n m k : Nat} {xs : List D} (h : ∀ x ∈ xs, Shw n m x) (l : xs.length ≤ k) : Shw (k * (n + 2) + 3) (m + 1) (.lst xs) := fun S => by
  obtain ⟨ps, g1, g2, g3, g4, g5⟩ := shw_all S xs h
  refine ⟨.list ps, ?_, g2, g3, ?_, ?_⟩
  · show (toPys S xs).map PyData.list = _
    rw [g1]
    rfl
  · simp only [PyData.depth]
    omega
  · have := listText_le (PyData.shownAll ps)
    have := Nat.mul_le_mul_right (n + 2) l
    show (listText (PyData.shownAll ps)).length ≤ _
    omega
theorem Shw.repr {n m : Nat} {d : D} (h : Shw n m d) (hd : (∃ xs, d = .tup xs) ∨ ∃ xs, d = .lst xs) (l : n ≤ 16000000) (l2 : m ≤ 64) (S : Sto) : ∃ s, reprO S d = some (.str s) := by
  obtain ⟨p, h1, h2, h3, h4, h5⟩ := h S
  refine ⟨p.shown, ?_⟩
  have : reprO S d = reprC S d := by
    rcases hd with ⟨xs, rfl⟩ | ⟨xs, rfl⟩ <;> rfl
  rw [this]
  unfold reprC
  rw [h1]
  show (match PyData.showable p && (decide _ && (decide _ && !PyData.hasDict p)) with | true => some (D.str p.shown) | false => none) = _
  rw [h2, h3, decide_eq_true (show p.shown.length ≤ sizeLine by simp only [sizeLine]; omega), decide_eq_true (show p.depth ≤ 64 by omega)]
  rfl
end MI
namespace Lw
open PySem MI
theorem shw_pd {p : Int × Int} (h : fB 1900 p) : Shw 4000 2 (pd p) := (Shw.tup (n := 1921) (m := 1) (k := 2) (xs := [.int p.1, .int p.2]) (fun x hx => by
  rcases List.mem_cons.mp hx with e | hx
  · rw [e]; exact Shw.int h.2.1
  · rw [List.mem_singleton.mp hx]; exact Shw.int h.2.2) (Nat.le_refl 2)).up (by omega) (Nat.le_refl _)
theorem shw_row {r : List (Int × Int)} (h : ∀ p ∈ r, fB 1900 p) (l : r.length ≤ 7) : Shw 30000 3 (rowD r) := (Shw.tup (n := 4000) (m := 2) (k := 7) (fun x hx => by
  obtain ⟨p, hp, rfl⟩ := List.mem_map.mp hx
  exact shw_pd (h p hp)) (by rw [List.length_map]; exact l)).up (by omega) (Nat.le_refl _)
theorem shw_tab {t : Tab} (h : ∀ r ∈ t, r.length ≤ 7 ∧ ∀ p ∈ r, fB 1900 p) (l : t.length ≤ 7) : Shw 220000 4 (tabD t) := (Shw.tup (n := 30000) (m := 3) (k := 7) (fun x hx => by
  obtain ⟨r, hr, rfl⟩ := List.mem_map.mp hx
  exact shw_row (h r hr).2 (h r hr).1) (by rw [List.length_map]; exact l)).up (by omega) (Nat.le_refl _)
/-- rows from items -/
def Is (q : Rat) (d : D) : Prop := ∃ p, d = pd p ∧ red p ∧ rq p = q
theorem Is.inj {q : Rat} {d e : D} (h : Is q d) (g : Is q e) : d = e := by
  obtain ⟨p, rfl, h2, h3⟩ := h
  obtain ⟨r, rfl, g2, g3⟩ := g
  rw [rq_inj h2 g2 (by rw [h3, g3])]
theorem Is.mk {p : Int × Int} {q : Rat} (h : red p) (e : rq p = q) : Is q (pd p) := ⟨p, rfl, h, e⟩
theorem co_row {n : Nat} {f : Nat → Rat} : ∀ {xs : List D}, Co n (fun i => Is (f i)) xs → ∃ r, xs = r.map pd ∧ RV n r f := by
  intro xs h
  obtain ⟨r, e, _⟩ := map_of (f := pd) (P := fun _ => True) xs fun x hx => by
    obtain ⟨i, _, p, hp, _⟩ := h.mem hx
    exact ⟨p, hp, trivial⟩
  refine ⟨r, e, by rw [← h.len, e, List.length_map], fun i hi => ?_⟩
  obtain ⟨x, h1, p, h2, h3, h4⟩ := h.el i hi
  rw [e, List.getElem?_map] at h1
  cases h5 : r[i]? with
  | none => rw [h5] at h1; cases h1
  | some u =>
    rw [h5] at h1
    have h1 : some (pd u) = some x := h1
    rw [h2] at h1
    have h6 : pd u = pd p := Option.some.inj h1
    have h7 : u = p := by
      have h8 := D.tup.inj h6
      obtain ⟨a1, a2⟩ := List.cons.inj h8
      exact Prod.ext (D.int.inj a1) (D.int.inj (List.cons.inj a2).1)
    exact ⟨p, by rw [h7], h3, h4⟩
theorem co_tab {n m : Nat} {M : Mat} : ∀ {xs : List D}, Co n (fun i d => ∃ r, d = rowD r ∧ RV m r (M i)) xs → ∃ t : Tab, xs = t.map rowD ∧ t.length = n ∧ ∀ i, i < n → ∃ s, t[i]? = some s ∧ RV m s (M i) := by
  intro xs h
  obtain ⟨t, e, _⟩ := map_of (f := rowD) (P := fun _ => True) xs fun x hx => by
    obtain ⟨i, _, r, hr, _⟩ := h.mem hx
    exact ⟨r, hr, trivial⟩
  refine ⟨t, e, by rw [← h.len, e, List.length_map], fun i hi => ?_⟩
  obtain ⟨x, h1, r, h2, h3⟩ := h.el i hi
  rw [e, List.getElem?_map] at h1
  cases h5 : t[i]? with
  | none => rw [h5] at h1; cases h1
  | some u =>
    rw [h5] at h1
    have h1 : some (rowD u) = some x := h1
    rw [h2] at h1
    have h6 : rowD u = rowD r := Option.some.inj h1
    have h7 : u = r := by rw [← rowOf_row u, h6, rowOf_row]
    exact ⟨r, by rw [h7], h3⟩
theorem tab_get {n : Nat} {t : Tab} {M : Mat} (h : TT n t M) {i : Nat} (hi : i < n) : ∃ r, (t.map rowD)[i]? = some (rowD r) ∧ RV n r (M i) ∧ t[i]? = some r := by
  obtain ⟨r, h1, h2⟩ := h.el i hi
  exact ⟨r, by rw [List.getElem?_map, h1]; rfl, h2, h1⟩
end Lw

/-! NC: flows, chances along rows of places. -/
namespace Lw
open PySem MI
theorem at_11 : Fs[11]? = some F_scaled := rfl
theorem at_21 : Fs[21]? = some F_flows_by := rfl
theorem at_26 : Fs[26]? = some F_flows_of := rfl
theorem at_22 : Fs[22]? = some F_chance_along := rfl
theorem at_23 : Fs[23]? = some F_seen_by := rfl
theorem at_25 : Fs[25]? = some F_check_places := rfl
theorem at_27 : Fs[27]? = some F_seen_chance := rfl
theorem pure_tabD (t : Tab) : pureD (tabD t) = true := pure_rows t
theorem pure_pd (p : Int × Int) : pureD (pd p) = true := rfl
theorem zip_at {xs ys : List D} {i : Nat} {x y z : D} (h1 : xs[i]? = some x) (h2 : ys[i]? = some y) (h : (zipD xs ys)[i]? = some z) : z = .tup [x, y] := by
  rw [zip_get xs ys i x y h1 h2] at h
  exact (Option.some.inj h).symm
theorem rv_at {n i : Nat} {s : List (Int × Int)} {f : Nat → Rat} (h : RV n s f) (hi : i < n) : ∃ p, (s.map pd)[i]? = some (pd p) ∧ red p ∧ rq p = f i := h.get hi
theorem ok_scaled {k n e e' : Nat} {r : List (Int × Int)} {f : Nat → Rat} {p : Int × Int} {d : D} {S : Sto} {Q : D → Sto → Prop} (hd : stillO d = some (r.map pd)) (v : RV n r f) (n9 : n < 900) (hb : ∀ i, i < n → SB e (f i)) (pr : red p) (pb : fB e' p) (l : e + e' < 8990) (q : ∀ s, RV n s (fun i => f i * rq p) → Q (rowD s) S) : Ok (callF Fs (k + 3) 11 [d, pd p]) S Q := by
  with_reducible refine s_call at_11 (by with_unfolding_all rfl) ?_
  unfold F_scaled
  dsimp only
  (repeat walk_at "mi")
  with_reducible refine w_compN n (fun i => Is (f i * rq p)) (w_iseq ?_)
  (repeat walk_at "mi")
  refine ⟨_, hd, _, rfl, rfl, by rw [List.length_map, v.1], by omega, fun i x hi hx => ?_, fun ys co => ?_⟩
  · obtain ⟨a, a1, a2, a3⟩ := v.get hi
    rw [a1] at hx
    cases hx
    (repeat walk_at "mi")
    with_reducible refine ok_times (fB_of a2 (by rw [a3]; exact hb i hi)) pb (by omega) ?_
    exact ⟨Is.mk (timesF_red a2.1 pr.1) (by rw [timesF_q a2.1 pr.1, a3]), rfl⟩
  · obtain ⟨s, rfl, hs⟩ := co_row co
    (repeat walk_at "mi")
    with_reducible refine s_fin (pure_tupP s) ?_
    exact q s hs
theorem ok_flows_by {k n b : Nat} {t : Tab} {S : Sto} {Q : D → Sto → Prop} (W : Wk n b t) (q : ∀ ft : Tab, TT n ft (fun i j => sh n (matT t) i * matT t i j) → Q (tabD ft) S) : Ok (callF Fs (k + 6) 21 [tabD t]) S Q := by
  have el := W.e2
  have bl := W.bn
  have n6 := W.hi
  with_reducible refine s_call at_21 (by with_unfolding_all rfl) ?_
  unfold F_flows_by
  dsimp only
  (repeat walk_at "mi")
  with_reducible refine w_compN n (fun i d => ∃ r, d = rowD r ∧ RV n r (fun j => matT t i j * sh n (matT t) i)) (w_zip ?_)
  (repeat walk_at "mi")
  with_reducible refine ok_shares_by W fun ss hs => ?_
  refine ⟨t.map rowD, ss.map pd, rfl, rfl, _, rfl, rfl, by rw [zipD_length, List.length_map, List.length_map, W.ok.sq.1, hs.1, Nat.min_self], by omega, fun i x hi hx => ?_, fun ys co => ?_⟩
  · obtain ⟨r, r1, r2, _⟩ := tab_get W.tt hi
    obtain ⟨p, p1, p2, p3⟩ := hs.get hi
    rw [zip_at r1 p1 hx]
    with_reducible refine w_gtup2 ?_
    (repeat walk_at "mi")
    show Ok (callF Fs (k + 5) 11 [rowD r, pd p]) _ _
    with_reducible refine ok_scaled (e := b) (e' := n * (b + 6)) (by with_unfolding_all rfl) r2 (by omega) (fun j hj => W.sb hi hj) p2 (fB_of p2 (by rw [p3]; exact W.sz.sh i hi)) (by omega) fun s hs => ?_
    exact ⟨⟨s, rfl, hs.congr fun j _ => by rw [p3]⟩, rfl⟩
  · obtain ⟨ft, rfl, f1, f2⟩ := co_tab co
    (repeat walk_at "mi")
    with_reducible refine s_fin (pure_tupR ft) ?_
    exact q ft ⟨f1, fun i hi => by
      obtain ⟨s, s1, s2⟩ := f2 i hi
      exact ⟨s, s1, s2.congr fun j _ => by grind⟩⟩
theorem ok_flows_of {k n b : Nat} {t : Tab} {S : Sto} {Q : D → Sto → Prop} (W : Wk n b t) (q : ∀ ft : Tab, TT n ft (fun i j => sh n (matT t) i * matT t i j) → Q (tabD ft) S) : Ok (callF Fs (k + 7) 26 [tabD t]) S Q := by
  with_reducible refine s_call at_26 (by with_unfolding_all rfl) ?_
  unfold F_flows_of
  dsimp only
  (repeat walk_at "mi")
  with_reducible refine ok_check_walk W.good.pu W.good.sm W.isW ?_
  (repeat walk_at "mi")
  with_reducible refine ok_flows_by W fun ft tf => ?_
  (repeat walk_at "mi")
  with_reducible refine s_fin (pure_tabD ft) ?_
  exact q ft tf
/-! chains -/
def adj : List Nat → List (Nat × Nat)
  | a :: b :: l => (a, b) :: adj (b :: l)
  | _ => []
theorem zip_adj : ∀ l : List Nat, zipD (l.map natD) ((l.drop 1).map natD) = (adj l).map ed
  | [] => rfl
  | [_] => rfl
  | a :: b :: l => by
    show D.tup [natD a, natD b] :: zipD ((b :: l).map natD) (l.map natD) = _
    have := zip_adj (b :: l)
    rw [show ((b :: l).drop 1) = l from rfl] at this
    rw [this]
    rfl
theorem adj_mem {l : List Nat} {n : Nat} (h : ∀ x ∈ l, x < n) : ∀ e ∈ adj l, e.1 < n ∧ e.2 < n := by
  induction l with
  | nil => intro e he; cases he
  | cons a l ih =>
    cases l with
    | nil => intro e he; cases he
    | cons b l =>
      intro e he
      rcases List.mem_cons.mp he with e1 | he
      · rw [e1]
        exact ⟨h a (by simp), h b (by simp)⟩
      · exact ih (fun x hx => h x (List.mem_cons_of_mem _ hx)) e he
theorem adj_len (l : List Nat) : (adj l).length ≤ l.length := by
  induction l with
  | nil => exact Nat.le_refl _
  | cons a l ih =>
    cases l with
    | nil => exact Nat.zero_le _
    | cons b l =>
      show (adj (b :: l)).length + 1 ≤ _
      rw [List.length_cons]
      omega
def prodQ (M : Mat) : List (Nat × Nat) → Rat
  | [] => 1
  | e :: es => M e.1 e.2 * prodQ M es
theorem prodQ_app (M : Mat) : ∀ a b : List (Nat × Nat), prodQ M (a ++ b) = prodQ M a * prodQ M b
  | [], b => by show prodQ M b = 1 * prodQ M b; grind
  | e :: a, b => by
    show M e.1 e.2 * prodQ M (a ++ b) = M e.1 e.2 * prodQ M a * prodQ M b
    rw [prodQ_app M a b]
    grind
theorem adj_app : ∀ (l : List Nat) (b a : Nat), adj (l ++ [b] ++ [a]) = adj (l ++ [b]) ++ [(b, a)]
  | [], b, a => rfl
  | [x], b, a => rfl
  | x :: y :: l, b, a => by
    show (x, y) :: adj (y :: l ++ [b] ++ [a]) = (x, y) :: (adj (y :: l ++ [b]) ++ [(b, a)])
    rw [adj_app (y :: l) b a]
theorem SB.mul {e f : Nat} {x y : Rat} (h : SB e x) (g : SB f y) : SB (e + f) (x * y) := by
  obtain ⟨N, D, h1, h2, h3, h4⟩ := h
  obtain ⟨N', D', g1, g2, g3, g4⟩ := g
  refine ⟨N * N', D * D', Int.mul_pos h1 g1, mul_lt2 h2 g2, mul_lt2 h3 g3, ?_⟩
  rw [h4, g4, Rat.intCast_mul, Rat.intCast_mul]
  have a := i_ne h1
  have b := i_ne g1
  generalize (D : Rat) = u at *
  generalize (D' : Rat) = w at *
  grind
theorem SB.one : SB 1 1 := ⟨1, 1, by decide, by decide, by decide, by show (1 : Rat) = 1 / 1; grind⟩
theorem prodQ_sb {n b : Nat} {M : Mat} (h : ∀ i, i < n → ∀ j, j < n → SB b (M i j)) : ∀ es : List (Nat × Nat), (∀ e ∈ es, e.1 < n ∧ e.2 < n) → SB (es.length * b + 1) (prodQ M es)
  | [], _ => SB.one.up (by omega)
  | e :: es, he => by
    obtain ⟨h1, h2⟩ := he e (List.mem_cons_self ..)
    have := (h e.1 h1 e.2 h2).mul (prodQ_sb h es fun x hx => he x (List.mem_cons_of_mem _ hx))
    refine this.up ?_
    rw [List.length_cons, Nat.succ_mul]
    omega
theorem cut_nats (F : List Nat) (lo hi : Option Int) : cut (F.map natD) lo hi = (cut F lo hi).map natD := by
  unfold cut
  rw [List.length_map, List.map_take, List.map_drop]
theorem wk_item {n b : Nat} {t : Tab} (W : Wk n b t) {i j : Nat} (hi : i < n) (hj : j < n) : ∃ r p, (∀ S, itemO S (tabD t) (natD i) = some (rowD r)) ∧ (∀ S, itemO S (rowD r) (natD j) = some (pd p)) ∧ red p ∧ rq p = matT t i j ∧ fB b p := by
  obtain ⟨r, hr, hrm, hrl, hp, hpm⟩ := ent_get W.ok.sq hi hj
  refine ⟨r, ent t i j, fun S => ?_, fun S => ?_, (W.ok.fr r hrm _ hpm).1, rfl, W.ent hi hj⟩
  · show L2.atI (t.map rowD) (i : Int) = _
    exact atI_nat (by rw [List.getElem?_map, hr]; rfl)
  · show L2.atI (r.map pd) (j : Int) = _
    exact atI_nat (get_pd hp)
theorem ok_chance_along {k n b : Nat} {t : Tab} {l : List Nat} {S : Sto} {Q : D → Sto → Prop} (W : Wk n b t) (hl : ∀ x ∈ l, x < n) (l7 : l.length ≤ 10) (q : ∀ p, red p → rq p = prodQ (matT t) (adj l) → fB (10 * b + 1) p → Q (pd p) S) : Ok (callF Fs (k + 3) 22 [tabD t, .tup (l.map natD)]) S Q := by
  have bl := W.bn
  with_reducible refine s_call at_22 (by with_unfolding_all rfl) ?_
  unfold F_chance_along
  dsimp only
  (repeat walk_at "mi")
  with_reducible refine w_for (w_zip ?_)
  (repeat walk_at "mi")
  with_reducible refine w_slice ?_
  (repeat walk_at "mi")
  with_reducible refine w_osome ?_
  (repeat walk_at "mi")
  refine ⟨((1 : Nat) : Int), rfl, ?_⟩
  with_reducible refine w_onone (s_sliceT ?_)
  rw [cut_nats, cut_drop]
  refine ⟨l.map natD, (l.drop 1).map natD, rfl, rfl, _, rfl, ?_⟩
  rw [zip_adj]
  have ha := adj_mem hl
  have hal := adj_len l
  have hq := prodQ_sb (M := matT t) (fun i hi j hj => W.sb hi hj)
  generalize adj l = prs at ha hal q
  refine ok_forFix (fun xs ρ S1 => S1 = S ∧ ∃ (pre rest : List (Nat × Nat)) (f : Int × Int) (o3 o4 : Option D), prs = pre ++ rest ∧ xs = rest.map ed ∧ ρ = [some (tabD t), some (.tup (l.map natD)), some (pd f), o3, o4] ∧ red f ∧ rq f = prodQ (matT t) pre) _ _ S ⟨rfl, [], prs, (1, 1), none, none, rfl, rfl, rfl, red_one, rq_one⟩ ?_ ?_
  · intro x xs ρ S1 ⟨e0, pre, rest, f, o3, o4, e3, e1, e2, hf, hc⟩
    subst e0 e2
    cases rest with
    | nil => cases e1
    | cons e es =>
      obtain ⟨rfl, rfl⟩ := List.cons.inj e1
      obtain ⟨h1, h2⟩ := ha e (by rw [e3]; simp)
      obtain ⟨r, p, i1, i2, p1, p2, p3⟩ := wk_item W h1 h2
      have pl : pre.length ≤ 9 := by
        have := congrArg List.length e3
        rw [List.length_append, List.length_cons] at this
        omega
      have sf : SB (10 * b) (rq f) := by
        rw [hc]
        refine (hq pre fun x hx => ha x (by rw [e3]; simp [hx])).up ?_
        have := Nat.mul_le_mul_right b pl
        have : 1 ≤ b := by
          rcases Nat.eq_zero_or_pos b with z | z
          · subst z
            have := p3.1
            have := p3.2.2
            omega
          · exact z
        omega
      show Ok (gTup [gName 3, gName 4] (callF Fs (k + 2)) (.tup [natD e.1, natD e.2]) _) _ _
      with_reducible refine w_gtup2 ?_
      (repeat walk_at "mi")
      with_reducible refine w_getItem ⟨_, i1 _, ?_⟩
      (repeat walk_at "mi")
      with_reducible refine w_getItem ⟨_, i2 _, ?_⟩
      (repeat walk_at "mi")
      with_reducible refine ok_times (fB_of hf sf) p3 (by omega) ?_
      (repeat walk_at "mi")
      refine ⟨rfl, pre ++ [e], es, timesF f p, _, _, by rw [e3, List.append_assoc]; rfl, rfl, rfl, timesF_red hf.1 p1.1, ?_⟩
      rw [timesF_q hf.1 p1.1, hc, p2, prodQ_app]
      show _ = _ * (_ * 1)
      grind
  · intro ρ S1 ⟨e0, pre, rest, f, o3, o4, e3, e1, e2, hf, hc⟩
    subst e0 e2
    cases rest with
    | cons _ _ => cases e1
    | nil =>
      rw [List.append_nil] at e3
      subst e3
      (repeat walk_at "mi")
      refine q f hf hc (fB_of hf ?_)
      rw [hc]
      refine (hq prs ha).up ?_
      have := Nat.mul_le_mul_right b (show prs.length ≤ 10 by omega)
      omega
theorem ok_seen_by {k n b a : Nat} {t : Tab} {l : List Nat} {S : Sto} {Q : D → Sto → Prop} (W : Wk n b t) (hl : ∀ x ∈ l, x < n) (l7 : l.length ≤ 10) (l0 : l[0]? = some a) (q : ∀ p, red p → rq p = sh n (matT t) a * prodQ (matT t) (adj l) → Q (pd p) S) : Ok (callF Fs (k + 6) 23 [tabD t, .tup (l.map natD)]) S Q := by
  have el := W.e2
  have bl := W.bn
  have ha := hl a (List.mem_of_getElem? l0)
  with_reducible refine s_call at_23 (by with_unfolding_all rfl) ?_
  unfold F_seen_by
  dsimp only
  (repeat walk_at "mi")
  with_reducible refine ok_shares_by W fun ss hs => ?_
  (repeat walk_at "mi")
  obtain ⟨p, p1, p2, p3⟩ := hs.get ha
  with_reducible refine w_getItem ⟨natD a, ?_, ?_⟩
  · show L2.atI (l.map natD) ((0 : Nat) : Int) = _
    exact atI_nat (by rw [List.getElem?_map, l0]; rfl)
  with_reducible refine w_getItem ⟨pd p, ?_, ?_⟩
  · show L2.atI (ss.map pd) (a : Int) = _
    exact atI_nat p1
  (repeat walk_at "mi")
  with_reducible refine ok_chance_along W hl l7 fun g g1 g2 g3 => ?_
  (repeat walk_at "mi")
  with_reducible refine ok_times (fB_of p2 (by rw [p3]; exact W.sz.sh a ha)) g3 (by omega) ?_
  (repeat walk_at "mi")
  exact q _ (timesF_red p2.1 g1.1) (by rw [timesF_q p2.1 g1.1, p3, g2])
theorem ok_check_places {k n : Nat} {l : List Nat} {S : Sto} {Q : D → Sto → Prop} (hl : ∀ x ∈ l, x < n) (l0 : l ≠ []) (q : Q .non S) : Ok (callF Fs (k + 3) 25 [.tup (l.map natD), natD n]) S Q := by
  with_reducible refine s_call at_25 (by with_unfolding_all rfl) ?_
  unfold F_check_places
  dsimp only
  (repeat walk_at "mi")
  have e : (l.map natD).isEmpty = false := by
    cases l with
    | nil => exact absurd rfl l0
    | cons a l => rfl
  rw [e]
  (repeat walk_at "mi")
  with_reducible refine w_for (w_enum ?_)
  (repeat walk_at "mi")
  refine ⟨_, rfl, ?_⟩
  refine ok_forFix (fun xs ρ S1 => ∃ (i : Nat) (o2 o3 : Option D), xs = numb i ((l.map natD).drop i) ∧ i ≤ l.length ∧ ρ = [some (.tup (l.map natD)), some (natD n), o2, o3] ∧ S1 = S) _ _ _ ⟨0, none, none, rfl, Nat.zero_le _, rfl, rfl⟩ ?_ ?_
  · intro x xs ρ S1 ⟨i, o2, o3, e1, li, e2, e3⟩
    subst e2 e3
    have hi : i < l.length := by
      rcases Nat.lt_or_ge i l.length with l1 | l1
      · exact l1
      · rw [List.drop_eq_nil_of_le (by rw [List.length_map]; exact l1)] at e1
        cases e1
    have lm : i < (l.map natD).length := by rw [List.length_map]; exact hi
    rw [List.drop_eq_getElem_cons lm] at e1
    have e4 : (l.map natD)[i] = natD l[i] := by simp
    rw [e4] at e1
    obtain ⟨rfl, rfl⟩ := List.cons.inj e1
    have hx := hl _ (List.getElem_mem hi)
    generalize l[i] = v at hx
    show Ok (gTup [gName 2, gName 3] _ (.tup [.int (i : Nat), natD v]) _) _ _
    with_reducible refine w_gtup2 ?_
    (repeat walk_at "mi")
    show Ok (subD (.int (n : Int)) (.int 1)) _ _
    (repeat walk_at "mi")
    show Ok (callF Fs (k + 2) 1 [.int (v : Int), .int 0, .int ((n : Int) - 1)]) _ _
    with_reducible refine ok_is_between ?_
    have e5 : decide ((0 : Int) ≤ (v : Int) ∧ (v : Int) ≤ (n : Int) - 1) = true := decide_eq_true (by omega)
    rw [e5]
    (repeat walk_at "mi")
    exact ⟨i + 1, _, _, rfl, hi, rfl, rfl⟩
  · intro ρ S1 ⟨i, o2, o3, e1, li, e2, e3⟩
    subst e2 e3
    (repeat walk_at "mi")
    exact q
theorem ok_seen_chance {k n b a : Nat} {t : Tab} {l : List Nat} {S : Sto} {Q : D → Sto → Prop} (W : Wk n b t) (hl : ∀ x ∈ l, x < n) (l7 : l.length ≤ 10) (l0 : l[0]? = some a) (q : ∀ p, red p → rq p = sh n (matT t) a * prodQ (matT t) (adj l) → Q (pd p) S) : Ok (callF Fs (k + 7) 27 [tabD t, .tup (l.map natD)]) S Q := by
  have l1 : l ≠ [] := fun e => by
    rw [e] at l0
    cases l0
  with_reducible refine s_call at_27 (by with_unfolding_all rfl) ?_
  unfold F_seen_chance
  dsimp only
  (repeat walk_at "mi")
  with_reducible refine ok_check_walk W.good.pu W.good.sm W.isW ?_
  (repeat walk_at "mi")
  rw [List.length_map, W.ok.sq.1]
  show Ok (callF Fs (k + 6) 25 [.tup (l.map natD), natD n]) _ _
  with_reducible refine ok_check_places hl l1 ?_
  (repeat walk_at "mi")
  with_reducible refine ok_seen_by W hl l7 l0 fun p p1 p2 => ?_
  (repeat walk_at "mi")
  exact q p p1 p2
end Lw

/-! ND: the law's rows of places and their chances. -/
namespace MI
theorem atI_neg1 {α : Type} {xs : List α} {x : α} (h : xs[xs.length - 1]? = some x) : L2.atI xs (-1) = some x := by
  have l : xs.length - 1 < xs.length := (List.getElem?_eq_some_iff.mp h).1
  unfold L2.atI L2.ixN
  rw [if_neg (by omega), if_pos (by omega)]
  show xs[((-1 : Int) + xs.length).toNat]? = some x
  rw [show ((-1 : Int) + xs.length).toNat = xs.length - 1 by omega]
  exact h
end MI
namespace Lw
open PySem MI
theorem at_42 : Fs[42]? = some F__law_chance := rfl
theorem at_43 : Fs[43]? = some F__law_spots := rfl
theorem ok_law_chance {k n b a : Nat} {t : Tab} {ss : List (Int × Int)} {l : List Nat} {S : Sto} {Q : D → Sto → Prop} (W : Wk n b t) (hs : RV n ss (sh n (matT t))) (hl : ∀ x ∈ l, x < n) (l7 : l.length ≤ 10) (l0 : l[0]? = some a) (q : ∀ p, red p → rq p = sh n (matT t) a * prodQ (matT t) (adj l) → Q (pd p) S) : Ok (callF Fs (k + 3) 42 [tabD t, rowD ss, .tup (l.map natD)]) S Q := by
  have el := W.e2
  have bl := W.bn
  have la := hl a (List.mem_of_getElem? l0)
  obtain ⟨p0, q1, q2, q3⟩ := hs.get la
  with_reducible refine s_call at_42 (by with_unfolding_all rfl) ?_
  unfold F__law_chance
  dsimp only
  (repeat walk_at "mi")
  with_reducible refine w_getItem ⟨natD a, ?_, ?_⟩
  · show L2.atI (l.map natD) ((0 : Nat) : Int) = _
    exact atI_nat (by rw [List.getElem?_map, l0]; rfl)
  with_reducible refine w_getItem ⟨pd p0, ?_, ?_⟩
  · show L2.atI (ss.map pd) (a : Int) = _
    exact atI_nat q1
  (repeat walk_at "mi")
  with_reducible refine w_for (w_zip ?_)
  (repeat walk_at "mi")
  with_reducible refine w_slice ?_
  (repeat walk_at "mi")
  with_reducible refine w_osome ?_
  (repeat walk_at "mi")
  refine ⟨((1 : Nat) : Int), rfl, ?_⟩
  with_reducible refine w_onone (s_sliceT ?_)
  rw [cut_nats, cut_drop]
  refine ⟨l.map natD, (l.drop 1).map natD, rfl, rfl, _, rfl, ?_⟩
  rw [zip_adj]
  have ha := adj_mem hl
  have hal := adj_len l
  have hq := prodQ_sb (M := matT t) (fun i hi j hj => W.sb hi hj)
  have sa := W.sz.sh a la
  generalize adj l = prs at ha hal q
  refine ok_forFix (fun xs ρ S1 => S1 = S ∧ ∃ (pre rest : List (Nat × Nat)) (f : Int × Int) (o3 o4 : Option D), prs = pre ++ rest ∧ xs = rest.map ed ∧ ρ = [some (tabD t), some (rowD ss), some (.tup (l.map natD)), some (pd f), o3, o4] ∧ red f ∧ rq f = sh n (matT t) a * prodQ (matT t) pre) _ _ S ⟨rfl, [], prs, p0, none, none, rfl, rfl, rfl, q2, by rw [q3]; show _ = _ * (1 : Rat); grind⟩ ?_ ?_
  · intro x xs ρ S1 ⟨e0, pre, rest, f, o3, o4, e3, e1, e2, hf, hc⟩
    subst e0 e2
    cases rest with
    | nil => cases e1
    | cons e es =>
      obtain ⟨rfl, rfl⟩ := List.cons.inj e1
      obtain ⟨h1, h2⟩ := ha e (by rw [e3]; simp)
      obtain ⟨r, p, i1, i2, p1, p2, p3⟩ := wk_item W h1 h2
      have pl : pre.length ≤ 9 := by
        have := congrArg List.length e3
        rw [List.length_append, List.length_cons] at this
        omega
      have sf : SB (n * (b + 6) + (9 * b + 1)) (rq f) := by
        rw [hc]
        refine sa.mul ((hq pre fun x hx => ha x (by rw [e3]; simp [hx])).up ?_)
        have := Nat.mul_le_mul_right b pl
        omega
      show Ok (gTup [gName 4, gName 5] (callF Fs (k + 2)) (.tup [natD e.1, natD e.2]) _) _ _
      with_reducible refine w_gtup2 ?_
      (repeat walk_at "mi")
      with_reducible refine w_getItem ⟨_, i1 _, ?_⟩
      (repeat walk_at "mi")
      with_reducible refine w_getItem ⟨_, i2 _, ?_⟩
      (repeat walk_at "mi")
      with_reducible refine ok_law_times (fB_of hf sf) p3 (by omega) ?_
      (repeat walk_at "mi")
      refine ⟨rfl, pre ++ [e], es, timesF f p, _, _, by rw [e3, List.append_assoc]; rfl, rfl, rfl, timesF_red hf.1 p1.1, ?_⟩
      rw [timesF_q hf.1 p1.1, hc, p2, prodQ_app]
      show _ = _ * (_ * (_ * 1))
      grind
  · intro ρ S1 ⟨e0, pre, rest, f, o3, o4, e3, e1, e2, hf, hc⟩
    subst e0 e2
    cases rest with
    | cons _ _ => cases e1
    | nil =>
      rw [List.append_nil] at e3
      subst e3
      (repeat walk_at "mi")
      exact q f hf hc
def posH (t : Tab) (i : Nat) : D → Option D
  | .int a => if 0 < (ent t i a.toNat).1 then some (.int a) else none
  | _ => none
def posL (n : Nat) (t : Tab) (i : Nat) : List Nat := (List.range n).filter fun j => decide (0 < (ent t i j).1)
theorem pos_eq (n : Nat) (t : Tab) (i : Nat) : (rangeL 0 n).filterMap (posH t i) = (posL n t i).map natD := by
  rw [show (0 : Int) = ((0 : Nat) : Int) from rfl, rangeL_nats, ← List.range_eq_range', List.filterMap_map]
  unfold posL
  induction List.range n with
  | nil => rfl
  | cons a l ih =>
    by_cases h : 0 < (ent t i a).1
    · rw [List.filterMap_cons_some (b := natD a) (by show (if 0 < (ent t i (a : Int).toNat).1 then some (D.int a) else none) = _; rw [Int.toNat_natCast, if_pos h]; rfl), ih, List.filter_cons_of_pos (by simpa using h)]
      rfl
    · rw [List.filterMap_cons_none (by show (if 0 < (ent t i (a : Int).toNat).1 then some (D.int a) else none) = _; rw [Int.toNat_natCast, if_neg h]), ih, List.filter_cons_of_neg (by simpa using h)]
theorem pos_some {n b : Nat} {t : Tab} (W : Wk n b t) {i : Nat} (hi : i < n) : 0 < (posL n t i).length ∧ ∀ x ∈ posL n t i, x < n := by
  refine ⟨?_, fun x hx => List.mem_range.mp (List.mem_filter.mp hx).1⟩
  have h1 := W.irr.row i hi
  obtain ⟨j, hj, h2⟩ := sum_ne (f := matT t i) (n := n) (by rw [h1]; decide)
  have h3 := W.irr.nn i hi j hj
  have h4 : 0 < matT t i j := by grind
  obtain ⟨r, hr, hrm, hrl, hp, hpm⟩ := ent_get W.ok.sq hi hj
  have h5 := (rq_pos (W.ok.fr r hrm _ hpm).1.1).mp h4
  exact List.length_pos_of_mem (List.mem_filter.mpr ⟨List.mem_range.mpr hj, by simpa using h5⟩)
theorem pure_tupN (fs : List Nat) : pureD (.tup (fs.map natD)) = true := pure_nats fs
theorem ok_law_spots {k N n b : Nat} {t : Tab} {w0 : List D} {R : Sto} {Q : D → Sto → Prop} (hw : Wd N w0) (hN : N < 2 ^ 57) (W : Wk n b t) (q : ∀ w' l, Wd (N + 30) w' → l.length ≤ 7 → l ≠ [] → (∀ x ∈ l, x < n) → Q (.tup (l.map natD)) (.lst w' :: R)) : Ok (callF Fs (k + 3) 43 [.loc 0, tabD t]) (.lst w0 :: R) Q := by
  have n1 := W.ok.lo
  have n6 := W.hi
  have hl : ((t.map rowD).length : Int) = n := by rw [List.length_map, W.ok.sq.1]
  with_reducible refine s_call at_43 (by with_unfolding_all rfl) ?_
  unfold F__law_spots
  dsimp only
  (repeat walk_at "mi")
  rw [hl]
  with_reducible refine ok_law_pick hw (by omega) (by omega) (by omega) fun w1 r hw1 r0 r1 => ?_
  have ha : ∃ a : Nat, r = a := ⟨r.toNat, by omega⟩
  with_reducible refine Exists.elim ha fun a ha => ?_
  subst ha
  (repeat walk_at "mi")
  with_reducible refine s_newC (by with_unfolding_all rfl) ?_
  (repeat walk_at "mi")
  with_reducible refine w_for (w_range1 ?_)
  (repeat walk_at "mi")
  with_reducible refine ok_law_pick hw1 (by omega) (by decide) (by decide) fun w2 r hw2 s0 s1 => ?_
  have ha : ∃ a : Nat, r = a := ⟨r.toNat, by omega⟩
  with_reducible refine Exists.elim ha fun m ha => ?_
  subst ha
  refine ⟨(m : Int), rfl, ?_, _, rfl, ?_⟩
  · unfold inR
    exact decide_eq_true (by omega)
  rw [Int.toNat_natCast]
  refine ok_forFix (fun xs ρ S1 => ∃ (i : Nat) (w3 : List D) (fs : List Nat) (o4 o5 : Option D), xs = rangeL (i : Int) (m - i) ∧ i ≤ m ∧ ρ = [some (.loc 0), some (tabD t), some (.int n), some (.loc (R.length + 1)), o4, o5, none] ∧ S1 = .lst w3 :: (R ++ [.lst (fs.map natD)]) ∧ Wd (N + 2 + 3 * i) w3 ∧ fs.length = i + 1 ∧ ∀ x ∈ fs, x < n) _ _ _ ⟨0, w2, [a], none, none, rfl, Nat.zero_le _, rfl, rfl, hw2, rfl, fun x hx => by rw [List.mem_singleton.mp hx]; omega⟩ ?_ ?_
  · intro x xs ρ S1 ⟨i, w3, fs, o4, o5, e1, li, e2, e3, hw3, fl, fn⟩
    obtain ⟨li2, e4, e5⟩ := rangeL_succ e1
    subst e2 e3 e4
    have cell : (R ++ [MO.lst (fs.map natD)])[R.length]? = some (.lst (fs.map natD)) := app_new
    have lx : fs[fs.length - 1]? = some fs[fs.length - 1] := List.getElem?_eq_getElem (by omega)
    have lm := fn _ (List.getElem_mem (show fs.length - 1 < fs.length by omega))
    generalize fs[fs.length - 1] = z at lx lm
    have pl := (pos_some W lm).1
    have pn := (pos_some W lm).2
    (repeat walk_at "mi")
    with_reducible refine w_comp (posH t z) (w_range1 ?_)
    (repeat walk_at "mi")
    refine ⟨(n : Int), rfl, ?_, _, rfl, rfl, ?_, fun y hy => ?_, ?_⟩
    · unfold inR
      exact decide_eq_true (by omega)
    · rw [Int.toNat_natCast, range_len2]
      simp only [sizeLine]; omega
    · obtain ⟨u, hu, rfl⟩ := range_mem _ _ y hy
      rw [Int.zero_add]
      have hu : u < n := by omega
      obtain ⟨r, p, i1, i2, p1, p2, p3⟩ := wk_item W lm hu
      (repeat walk_at "mi")
      with_reducible refine w_getItem ⟨natD z, ?_, ?_⟩
      · rw [itemO_items (it_C cell)]
        refine atI_neg1 ?_
        rw [List.length_map, List.getElem?_map, lx]
        rfl
      with_reducible refine w_getItem ⟨_, i1 _, ?_⟩
      (repeat walk_at "mi")
      with_reducible refine w_getItem ⟨_, i2 _, ?_⟩
      (repeat walk_at "mi")
      have ep : ent t z u = p := by
        obtain ⟨r', hr', hrm, hrl, hp, hpm⟩ := ent_get W.ok.sq lm hu
        exact rq_inj (W.ok.fr r' hrm _ hpm).1 p1 p2.symm
      have hh : posH t z (.int (u : Int)) = if 0 < p.1 then some (.int (u : Int)) else none := by
        show (if 0 < (ent t z (u : Int).toNat).1 then _ else _) = _
        rw [Int.toNat_natCast, ep]
      by_cases g : 0 < p.1
      · rw [decide_eq_true g]
        (repeat walk_at "mi")
        exact ⟨by rw [hh, if_pos g], rfl⟩
      · rw [decide_eq_false g]
        exact ⟨by rw [hh, if_neg g], rfl⟩
    · rw [Int.toNat_natCast, pos_eq]
      (repeat walk_at "mi")
      with_reducible refine s_litC cell ?_
      (repeat walk_at "mi")
      with_reducible refine ok_law_pick hw3 (by omega) (by decide) (by decide) fun w4 g hw4 g0 g1 => ?_
      (repeat walk_at "mi")
      have fin : ∀ (w5 : List D) (v : Nat), Wd (N + 2 + 3 * i + 3) w5 → v < n → Ok (appD (.loc (R.length + 1)) (natD v)) (.lst w5 :: (R ++ [.lst (fs.map natD)])) fun _ S2 => ∃ (i' : Nat) (w3 : List D) (fs : List Nat), xs = rangeL (i' : Int) (m - i') ∧ i' ≤ m ∧ S2 = .lst w3 :: (R ++ [.lst (fs.map natD)]) ∧ Wd (N + 2 + 3 * i') w3 ∧ fs.length = i' + 1 ∧ ∀ x ∈ fs, x < n := fun w5 v hw5 hv => by
        have e6 := nats_push fs v
        refine s_appC cell (by rw [List.length_map]; omega) (by rw [e6]; exact pure_nats _) ?_
        rw [e6, set_last]
        exact ⟨i + 1, w5, fs ++ [v], e5, li2, rfl, hw5.up (by omega), by rw [List.length_append, List.length_singleton, fl], fun x hx => by
          rcases List.mem_append.mp hx with hx | hx
          · exact fn x hx
          · rw [List.mem_singleton.mp hx]; exact hv⟩
      by_cases g2 : 0 < g
      · rw [decide_eq_true g2]
        (repeat walk_at "mi")
        with_reducible refine ok_law_of (xs := (posL n t z).map natD) hw4 (by omega) (fun w => by with_unfolding_all rfl) (by rw [List.length_map]; exact pl) (by rw [List.length_map]; have := List.length_filter_le (fun j => decide (0 < (ent t z j).1)) (List.range n); rw [List.length_range] at this; unfold posL; omega) (pure_nat_mem _) fun w5 y hw5 hy => ?_
        with_reducible refine Exists.elim (List.mem_map.mp hy) fun v hv => ?_
        rw [← hv.2]
        (repeat walk_at "mi")
        refine (fin w5 v (hw5.up (by omega)) (pn v hv.1)).mono fun d S2 ⟨i', w6, fs2, h1, h2, h3, h4, h5, h6⟩ => ?_
        (repeat walk_at "mi")
        exact ⟨i', w6, fs2, _, _, h1, h2, rfl, h3, h4, h5, h6⟩
      · rw [decide_eq_false g2]
        (repeat walk_at "mi")
        with_reducible refine ok_law_pick hw4 (by omega) (by omega) (by omega) fun w5 v hw5 v0 v1 => ?_
        have ha : ∃ a : Nat, v = a := ⟨v.toNat, by omega⟩
        with_reducible refine Exists.elim ha fun v ha => ?_
        subst ha
        (repeat walk_at "mi")
        refine (fin w5 v (hw5.up (by omega)) (by omega)).mono fun d S2 ⟨i', w6, fs2, h1, h2, h3, h4, h5, h6⟩ => ?_
        (repeat walk_at "mi")
        exact ⟨i', w6, fs2, _, _, h1, h2, rfl, h3, h4, h5, h6⟩
  · intro ρ S1 ⟨i, w3, fs, o4, o5, e1, li, e2, e3, hw3, fl, fn⟩
    subst e2 e3
    have cell : (R ++ [MO.lst (fs.map natD)])[R.length]? = some (.lst (fs.map natD)) := app_new
    (repeat walk_at "mi")
    with_reducible refine w_b1 ⟨.tup (fs.map natD), ?_, ?_⟩
    · show (itemsO _ _).map D.tup = _
      rw [it_C cell]
      rfl
    (repeat walk_at "mi")
    with_reducible refine s_finT (pure_tupN fs) ?_
    rw [List.length_cons, List.take_succ_cons, List.take_append_of_le_length (Nat.le_refl _), List.take_length]
    exact q w3 fs (hw3.up (by omega)) (by omega) (by intro e; rw [e] at fl; cases fl) fn
end Lw

/-! X5: k05's law. -/
namespace MI
open PySem
theorem w_callPS {i m kn : Nat} {p : List Nat} {f g : MA} {c : Call} {ρ : Env} {S : Sto} {Q : D → Sto → Prop} (h : Ok (f c ρ) S fun xs S1 => Ok (g c ρ) S1 fun ys S2 => (xs.length = m ∧ ys.length = kn) ∧ ∃ zs, permA p (xs ++ ys) = some zs ∧ Ok (c i zs) S2 Q) : Ok (eCallP i p m kn f g c ρ) S Q := by
  simp only [eCallP, ok_bind, ok_chk, ok_ofO, decide_eq_true_eq]
  exact h
theorem w_gtup3 {i j l : Nat} {a b d : D} {c : Call} {ρ : Env} {S : Sto} {Q : Env → Sto → Prop} (q : Q (((ρ.set i (some a)).set j (some b)).set l (some d)) S) : Ok (MI.gTup [MI.gName i, MI.gName j, MI.gName l] c (.tup [a, b, d]) ρ) S Q := by
  simp only [MI.gTup, ok_bind, ok_chk, MI.gList, MI.gName, ok_pure]
  exact ⟨rfl, q⟩
theorem s_addLS {xs ys : List D} {S : Sto} {Q : D → Sto → Prop} (l : xs.length + ys.length ≤ 1000) (q : Q (.lst (xs ++ ys)) S) : Ok (addA (.lst xs) (.lst ys)) S Q := s_catL rfl rfl rfl l q
end MI
namespace Lw
open PySem MI
theorem at_44 : Fs[44]? = some F__law_right := rfl
theorem at_45 : Fs[45]? = some F_law := rfl
def wayD (w : List Nat) : D := .tup (w.map natD)
theorem sum_range (f : Nat → Rat) : ∀ n, ((List.range n).map f).sum = sumTo f n
  | 0 => rfl
  | n + 1 => by
    rw [List.range_succ, List.map_append, List.sum_append, sum_range f n]
    simp [sumTo]
    grind
theorem sum_flat {α β : Type} (f : α → List β) (g : β → Rat) : ∀ l : List α, ((l.flatMap f).map g).sum = (l.map fun v => ((f v).map g).sum).sum
  | [] => rfl
  | a :: l => by
    rw [List.flatMap_cons, List.map_append, List.sum_append, sum_flat f g l]
    rfl
def extW (n : Nat) (v : List Nat) : List (List Nat) := (List.range n).map fun x => v ++ [x]
def rowsN (n : Nat) : Nat → List (List Nat)
  | 0 => [[]]
  | k + 1 => (rowsN n k).flatMap (extW n)
theorem rowsN_mem {n : Nat} : ∀ {k : Nat} {v : List Nat}, v ∈ rowsN n k → v.length = k ∧ ∀ x ∈ v, x < n
  | 0, v, h => by
    rw [List.mem_singleton.mp h]
    exact ⟨rfl, fun x hx => by cases hx⟩
  | k + 1, v, h => by
    obtain ⟨u, hu, hv⟩ := List.mem_flatMap.mp h
    obtain ⟨x, hx, rfl⟩ := List.mem_map.mp hv
    obtain ⟨h1, h2⟩ := rowsN_mem hu
    refine ⟨by rw [List.length_append, h1]; rfl, fun y hy => ?_⟩
    rcases List.mem_append.mp hy with hy | hy
    · exact h2 y hy
    · rw [List.mem_singleton.mp hy]
      exact List.mem_range.mp hx
theorem rowsN_len (n : Nat) : ∀ k, (rowsN n k).length = n ^ k
  | 0 => rfl
  | k + 1 => by
    have : ∀ l : List (List Nat), (l.flatMap (extW n)).length = l.length * n := fun l => by
      induction l with
      | nil => simp
      | cons v l ih =>
        rw [List.flatMap_cons, List.length_append, ih, List.length_cons, Nat.succ_mul]
        unfold extW
        rw [List.length_map, List.length_range]
        omega
    show ((rowsN n k).flatMap (extW n)).length = _
    rw [this, rowsN_len n k, Nat.pow_succ]
def valR (n : Nat) (P : Mat) (v : List Nat) : Rat := sh n P (v.headD 0) * prodQ P (adj v)
theorem val_ext {n : Nat} {P : Mat} (h : Irr n P) {v : List Nat} (hv : v ≠ []) (hn : ∀ x ∈ v, x < n) : ((extW n v).map (valR n P)).sum = valR n P v := by
  unfold extW
  rw [List.map_map, sum_range]
  obtain ⟨l, z, rfl⟩ : ∃ l z, v = l ++ [z] := ⟨v.dropLast, v.getLast hv, (List.dropLast_concat_getLast hv).symm⟩
  rw [sumTo_congr (g := fun x => valR n P (l ++ [z]) * P z x) fun x hx => ?_, sumTo_mul, h.row z (hn z (by simp))]
  · grind
  · show valR n P (l ++ [z] ++ [x]) = _
    unfold valR
    rw [adj_app, prodQ_app]
    have e : (l ++ [z] ++ [x]).headD 0 = (l ++ [z]).headD 0 := by cases l <;> rfl
    rw [e]
    show _ * (_ * (_ * 1)) = _
    grind
theorem val_sum {n : Nat} {P : Mat} (h : Irr n P) (n1 : 1 ≤ n) : ∀ k, ((rowsN n (k + 1)).map (valR n P)).sum = 1
  | 0 => by
    show (((rowsN n 0).flatMap (extW n)).map (valR n P)).sum = 1
    have : ((rowsN n 0).flatMap (extW n)) = (List.range n).map fun x => [x] := by
      show extW n [] ++ [] = _
      rw [List.append_nil]
      rfl
    rw [this, List.map_map, sum_range, ← h.shsum n1]
    refine sumTo_congr fun x hx => ?_
    show sh n P x * 1 = _
    grind
  | k + 1 => by
    show (((rowsN n (k + 1)).flatMap (extW n)).map (valR n P)).sum = 1
    rw [sum_flat, ← val_sum h n1 k]
    congr 1
    refine List.map_congr_left fun v hv => ?_
    obtain ⟨h1, h2⟩ := rowsN_mem hv
    exact val_ext h (by intro e; rw [e] at h1; simp at h1) h2
def extH (v : List Nat) : D → Option D
  | .int x => some (wayD (v ++ [x.toNat]))
  | _ => none
theorem ext_eq (n : Nat) (v : List Nat) : (rangeL 0 n).filterMap (extH v) = (extW n v).map wayD := by
  rw [show (0 : Int) = ((0 : Nat) : Int) from rfl, rangeL_nats, ← List.range_eq_range', List.filterMap_map]
  unfold extW
  rw [List.map_map, ← List.filterMap_eq_map]
  rfl
/-- fractions along a list -/
theorem co_frs {xs : List D} {vs : List (List Nat)} {f : List Nat → Rat} (h : Co vs.length (fun i d => ∃ v, vs[i]? = some v ∧ Is (f v) d) xs) : ∃ fs : List (Int × Int), xs = fs.map pd ∧ (∀ p ∈ fs, red p) ∧ fs.map rq = vs.map f := by
  obtain ⟨fs, rfl, v⟩ := co_row (n := vs.length) (f := fun i => f (vs.getD i [])) (xs := xs) ⟨h.len, fun i hi => by
    obtain ⟨x, h1, v, h2, h3⟩ := h.el i hi
    refine ⟨x, h1, ?_⟩
    rw [List.getD_eq_getElem?_getD, h2]
    exact h3⟩
  refine ⟨fs, rfl, v.sum.1, List.ext_getElem? fun i => ?_⟩
  rw [List.getElem?_map, List.getElem?_map]
  rcases Nat.lt_or_ge i vs.length with l | l
  · obtain ⟨p, p1, p2, p3⟩ := v.2 i l
    rw [p1, List.getElem?_eq_getElem l]
    show some (rq p) = some (f vs[i])
    rw [p3, List.getD_eq_getElem?_getD, List.getElem?_eq_getElem l]
    rfl
  · rw [List.getElem?_eq_none (by rw [v.1]; exact l), List.getElem?_eq_none l]
    rfl
theorem frs_eq {fs gs : List (Int × Int)} (h : ∀ p ∈ fs, red p) (g : ∀ p ∈ gs, red p) (e : fs.map rq = gs.map rq) : fs = gs := by
  induction fs generalizing gs with
  | nil => cases gs with
    | nil => rfl
    | cons _ _ => cases e
  | cons a fs ih =>
    cases gs with
    | nil => cases e
    | cons b gs =>
      obtain ⟨e1, e2⟩ := List.cons.inj e
      rw [rq_inj (h a (List.mem_cons_self ..)) (g b (List.mem_cons_self ..)) e1, ih (fun p hp => h p (List.mem_cons_of_mem _ hp)) (fun p hp => g p (List.mem_cons_of_mem _ hp)) e2]
theorem shw_frs {fs : List (Int × Int)} (h : ∀ p ∈ fs, fB 1900 p) (l : fs.length ≤ 100) : Shw 410000 3 (.lst (fs.map pd)) := (Shw.lst (n := 4000) (m := 2) (k := 100) (fun x hx => by
  obtain ⟨p, hp, rfl⟩ := List.mem_map.mp hx
  exact shw_pd (h p hp)) (by rw [List.length_map]; exact l)).up (by omega) (Nat.le_refl _)
theorem eqv_self (a b : Int) : PyData.eqv (.tuple [.int a, .int b]) (.tuple [.int a, .int b]) = true := by
  rw [eqv_pair, beq_self_eq_true, beq_self_eq_true]
  rfl
theorem ok_law_right {k N : Nat} {w0 : List D} {R : Sto} {Q : D → Sto → Prop} (hw : Wd N w0) (hN : N < 2 ^ 55) (q : ∀ w', Wd (N + 3000) w' → Q (.bl true) (.lst w' :: R)) : Ok (callF Fs (k + 8) 44 [.loc 0]) (.lst w0 :: R) Q := by
  with_reducible refine s_call at_44 (by with_unfolding_all rfl) ?_
  unfold F__law_right
  dsimp only
  (repeat walk_at "mi")
  with_reducible refine ok_law_of (xs := [3, 2, 4, 3, 4, 1, 5].map natD) hw (by omega) (fun w => by with_unfolding_all rfl) (by simp) (by simp) (pure_nat_mem _) fun w1 x hw1 hx => ?_
  with_reducible refine Exists.elim (List.mem_map.mp hx) fun n hn => ?_
  have hn2 : 1 ≤ n ∧ n ≤ 5 := by
    have := hn.1
    simp only [List.mem_cons, List.not_mem_nil, or_false] at this
    omega
  have n1 := hn2.1
  have n5 := hn2.2
  rw [← hn.2]
  clear hn hx
  (repeat walk_at "mi")
  with_reducible refine ok_law_walk (k := k + 2) hw1 (by omega) n1 (by omega) fun w2 t hw2 ht => ?_
  have W := ht.wk (by omega)
  have el : n * (23 + 6) ≤ 145 := by omega
  have tl := ht.ok.sq.1
  have shb : ∀ i, i < n → SB 145 (sh n (matT t) i) := fun i hi => (W.sz.sh i hi).up (by omega)
  (repeat walk_at "mi")
  with_reducible refine ok_law_shares W fun ss hs => ?_
  (repeat walk_at "mi")
  with_reducible refine ok_law_flows W fun ft hft => ?_
  (repeat walk_at "mi")
  rw [List.length_map, tl]
  (repeat walk_at "mi")
  with_reducible refine w_gtup3 ?_
  (repeat walk_at "mi")
  with_reducible refine ok_flows_of W fun ft2 hft2 => ?_
  have e := hft2.eq hft
  subst e
  (repeat walk_at "mi")
  with_reducible refine w_callPS ?_
  (repeat walk_at "mi")
  refine ⟨⟨rfl, rfl⟩, _, rfl, ?_⟩
  show Ok (callF Fs (k + 7) 26 [tabD t]) _ _
  with_reducible refine ok_flows_of W fun ft3 hft3 => ?_
  have e := hft3.eq hft2
  subst e
  (repeat walk_at "mi")
  have fb : ∀ r ∈ ft3, r.length ≤ 7 ∧ ∀ p ∈ r, fB 300 p := fun r hr => by
    obtain ⟨i, hi, e⟩ := List.getElem_of_mem hr
    have hi2 : i < n := by rw [← hft.len]; exact hi
    obtain ⟨s, h1, v⟩ := hft.el i hi2
    rw [List.getElem?_eq_getElem hi, e] at h1
    cases h1
    exact ⟨by rw [v.1]; omega, v.fB fun j hj => ((shb i hi2).mul (W.sb hi2 hj)).up (by omega)⟩
  have sw := shw_tab (fun r hr => ⟨(fb r hr).1, fun p hp => ((fb r hr).2 p hp).up (by omega)⟩) (by rw [hft.len]; omega)
  have sw2 := Shw.lst (xs := [tabD ft3, tabD ft3]) (k := 2) (fun x hx => by
    rcases List.mem_cons.mp hx with e | hx
    · rw [e]; exact sw
    · rw [List.mem_singleton.mp hx]; exact sw) (by simp)
  with_reducible refine Exists.elim (sw2.repr (.inr ⟨_, rfl⟩) (by omega) (by omega) (.lst w2 :: R)) fun st hst => ?_
  with_reducible refine w_b1 ⟨_, hst, ?_⟩
  (repeat walk_at "mi")
  with_reducible refine w_b1 ⟨_, hst, ?_⟩
  (repeat walk_at "mi")
  rw [beq_self_eq_true]
  (repeat walk_at "mi")
  with_reducible refine w_for (w_enum ?_)
  (repeat walk_at "mi")
  refine ⟨_, rfl, ?_⟩
  refine ok_forFix (fun xs ρ S1 => ∃ (i : Nat) (o9 o10 : Option D), xs = numb i ((ft3.map rowD).drop i) ∧ i ≤ n ∧ ρ = [some (.loc 0), some (tabD t), some (tabD ft3), none, none, none, some (rowD ss), some (tabD ft3), some (.int n), o9, o10, none, none, none, none] ∧ S1 = .lst w2 :: R) _ _ _ ⟨0, none, none, rfl, Nat.zero_le _, rfl, rfl⟩ ?_ ?_
  · intro x xs ρ S1 ⟨i, o9, o10, e1, li, e2, e3⟩
    subst e2 e3
    have lf : (ft3.map rowD).length = n := by rw [List.length_map, hft.len]
    have hi : i < n := by
      rcases Nat.lt_or_ge i n with l | l
      · exact l
      · rw [List.drop_eq_nil_of_le (by omega)] at e1
        cases e1
    have hr := tab_get hft hi
    with_reducible refine Exists.elim hr fun r hr => ?_
    have e4 : (ft3.map rowD).drop i = rowD r :: (ft3.map rowD).drop (i + 1) := by
      have l : i < (ft3.map rowD).length := by omega
      have h1 := hr.1
      rw [List.getElem?_eq_getElem l] at h1
      rw [List.drop_eq_getElem_cons l, Option.some.inj h1]
    rw [e4] at e1
    have e5 := List.cons.inj e1
    rw [e5.1, e5.2]
    have vr := hr.2.1
    have cv := col_rv hft hi
    show Ok (gTup [gName 9, gName 10] _ (.tup [.int (i : Nat), rowD r]) _) _ _
    with_reducible refine w_gtup2 ?_
    (repeat walk_at "mi")
    with_reducible refine ok_law_totalI (B := 300) (fs := r) (by with_unfolding_all rfl) (fb r (List.mem_of_getElem? hr.2.2)).2 (by rw [vr.1]; omega) (by rw [vr.1]; omega) ?_
    (repeat walk_at "mi")
    with_reducible refine w_compN n (fun a d => Is (sh n (matT t) a * matT t a i) d) (w_iseq ?_)
    (repeat walk_at "mi")
    refine ⟨_, rfl, rfl, lf, by omega, fun a x ha hx => ?_, fun ys co => ?_⟩
    · have hr2 := tab_get hft ha
      with_reducible refine Exists.elim hr2 fun r2 hr2 => ?_
      rw [hr2.1] at hx
      cases hx
      have hp := hr2.2.1.get hi
      with_reducible refine Exists.elim hp fun p hp => ?_
      (repeat walk_at "mi")
      with_reducible refine w_getItem ⟨pd p, ?_, ?_⟩
      · show L2.atI (r2.map pd) (i : Int) = _
        exact atI_nat hp.1
      exact ⟨Is.mk hp.2.1 hp.2.2, rfl⟩
    have cr := co_row co
    with_reducible refine Exists.elim cr fun c cr => ?_
    rw [cr.1]
    have vc := cr.2
    (repeat walk_at "mi")
    with_reducible refine ok_law_totalI (B := 300) (fs := c) (by with_unfolding_all rfl) (vc.fB fun a ha => ((shb a ha).mul (W.sb ha hi)).up (by omega)) (by rw [vc.1]; omega) (by rw [vc.1]; omega) ?_
    have e6 : sumF r = sumF c := rq_inj vr.sum.2.1 vc.sum.2.1 (by
      rw [vr.sum.2.2, vc.sum.2.2, W.irr.shstat hi, sumTo_mul, W.irr.row i hi]
      grind)
    rw [← e6]
    (repeat walk_at "mi")
    rw [eqv_self]
    (repeat walk_at "mi")
    exact ⟨i + 1, _, _, rfl, hi, rfl, rfl⟩
  · intro ρ S1 ⟨i, o9, o10, e1, li, e2, e3⟩
    subst e2 e3
    clear e1
    (repeat walk_at "mi")
    with_reducible refine w_for (w_range1 ?_)
    (repeat walk_at "mi")
    refine ⟨(3 : Nat), rfl, by decide, _, rfl, ?_⟩
    rw [Int.toNat_natCast]
    refine ok_forFix (fun xs ρ S1 => ∃ (i : Nat) (w : List D) (o3 o11 : Option D), xs = rangeL ((i : Nat) : Int) (3 - i) ∧ i ≤ 3 ∧ ρ = [some (.loc 0), some (tabD t), some (tabD ft3), o3, none, none, some (rowD ss), some (tabD ft3), some (.int n), o9, o10, o11, none, none, none] ∧ S1 = .lst w :: R ∧ Wd (N + 700 + i * 30) w) _ _ _ ⟨0, w2, none, none, rfl, by omega, rfl, rfl, hw2.up (by omega)⟩ ?_ ?_
    · intro x xs ρ S1 ⟨i, w, o3, o11, e1, li, e2, e3, hw⟩
      obtain ⟨li2, e4, e5⟩ := rangeL_succ e1
      subst e2 e3 e4
      (repeat walk_at "mi")
      with_reducible refine ok_law_spots hw (by omega) W fun w3 l hw3 l7 l0 ln => ?_
      have hl0 : ∃ a, l[0]? = some a := by
        cases l with
        | nil => exact absurd rfl l0
        | cons a l => exact ⟨a, rfl⟩
      with_reducible refine Exists.elim hl0 fun a la => ?_
      (repeat walk_at "mi")
      with_reducible refine ok_seen_chance W ln (by omega) la fun p p1 p2 => ?_
      have pb : fB 1900 p := fB_of p1 (by
        rw [p2]
        refine ((shb a (ln a (List.mem_of_getElem? la))).mul (prodQ_sb (fun i hi j hj => W.sb hi hj) _ (adj_mem ln))).up ?_
        have := Nat.mul_le_mul_right 23 (Nat.le_trans (adj_len l) l7)
        omega)
      with_reducible refine Exists.elim ((shw_pd pb).repr (.inl ⟨_, rfl⟩) (by omega) (by omega) (.lst w3 :: R)) fun st hst => ?_
      (repeat walk_at "mi")
      with_reducible refine w_b1 ⟨_, hst, ?_⟩
      (repeat walk_at "mi")
      with_reducible refine ok_law_chance W hs ln (by omega) la fun p' p1' p2' => ?_
      have e : p' = p := rq_inj p1' p1 (by rw [p2, p2'])
      subst e
      (repeat walk_at "mi")
      with_reducible refine w_b1 ⟨_, hst, ?_⟩
      (repeat walk_at "mi")
      rw [beq_self_eq_true]
      (repeat walk_at "mi")
      exact ⟨i + 1, w3, _, _, e5, li2, rfl, rfl, hw3.up (by omega)⟩
    · intro ρ S1 ⟨i, w, o3, o11, e1, li, e2, e3, hw⟩
      have := rangeL_nil e1 li
      subst this
      subst e2 e3
      (repeat walk_at "mi")
      with_reducible refine w_for (w_range1 ?_)
      (repeat walk_at "mi")
      have lim : ∃ m : Nat, L2.atI [D.int 3, .int 3, .int 3, .int 2, .int 1] ((n : Int) - 1) = some (.int m) ∧ 1 ≤ m ∧ m ≤ 3 ∧ ∀ j, j ≤ m → n ^ j ≤ 27 := by
        have h5 : n = 1 ∨ n = 2 ∨ n = 3 ∨ n = 4 ∨ n = 5 := by omega
        rcases h5 with rfl | rfl | rfl | rfl | rfl
        · exact ⟨3, rfl, by omega, by omega, by decide⟩
        · exact ⟨3, rfl, by omega, by omega, by decide⟩
        · exact ⟨3, rfl, by omega, by omega, by decide⟩
        · exact ⟨2, rfl, by omega, by omega, by decide⟩
        · exact ⟨1, rfl, by omega, by omega, by decide⟩
      with_reducible refine Exists.elim lim fun m hm => ?_
      have m1 := hm.2.1
      have m3 := hm.2.2.1
      have mp := hm.2.2.2
      have hm1 : itemO (.lst w :: R) (.tup [D.int 3, .int 3, .int 3, .int 2, .int 1]) (.int ((n : Int) - 1)) = some (.int m) := hm.1
      with_reducible refine w_getItem ⟨_, hm1, ?_⟩
      (repeat walk_at "mi")
      with_reducible refine ok_law_pick hw (by omega) (by omega) (by omega) fun w4 g hw4 g0 g1 => ?_
      have hg : ∃ a : Nat, g = a := ⟨g.toNat, by omega⟩
      with_reducible refine Exists.elim hg fun g' hg => ?_
      subst hg
      (repeat walk_at "mi")
      refine ⟨((1 + g' : Nat) : Int), rfl, ?_, _, rfl, ?_⟩
      · unfold inR
        exact decide_eq_true (by omega)
      rw [Int.toNat_natCast]
      generalize hL : 1 + g' = L
      have lL : 1 ≤ L ∧ L ≤ m := by omega
      refine ok_forFix (fun xs ρ S1 => ∃ (i : Nat) (o3 o11 o12 : Option D), xs = rangeL ((i : Nat) : Int) (L - i) ∧ i ≤ L ∧ ρ = [some (.loc 0), some (tabD t), some (tabD ft3), o3, some (.lst ((rowsN n i).map wayD)), none, some (rowD ss), some (tabD ft3), some (.int n), o9, o10, o11, o12, none, none] ∧ S1 = .lst w4 :: R) _ _ _ ⟨0, _, _, _, rfl, by omega, rfl, rfl⟩ ?_ ?_
      · intro x xs ρ S1 ⟨i, o3, o11, o12, e1, li, e2, e3⟩
        obtain ⟨li2, e4, e5⟩ := rangeL_succ e1
        subst e2 e3 e4
        (repeat walk_at "mi")
        with_reducible refine w_for (w_iseq ?_)
        (repeat walk_at "mi")
        refine ⟨_, rfl, ?_⟩
        have len1 : (rowsN n (i + 1)).length ≤ 27 := by rw [rowsN_len]; exact mp _ (by omega)
        refine ok_forFix (fun xs ρ S1 => ∃ (pre rest : List (List Nat)) (o11 : Option D), rowsN n i = pre ++ rest ∧ xs = rest.map wayD ∧ ρ = [some (.loc 0), some (tabD t), some (tabD ft3), some (natD i), some (.lst ((rowsN n i).map wayD)), none, some (rowD ss), some (tabD ft3), some (.int n), o9, o10, o11, some (.lst ((pre.flatMap (extW n)).map wayD)), none, none] ∧ S1 = .lst w4 :: R) _ _ _ ⟨[], rowsN n i, _, rfl, rfl, rfl, rfl⟩ ?_ ?_
        · intro x xs ρ S1 ⟨pre, rest, o11, e6, e7, e2, e3⟩
          subst e2 e3
          cases rest with
          | nil => cases e7
          | cons v rest =>
            have e8 := List.cons.inj e7
            rw [e8.1, e8.2]
            have hv := rowsN_mem (n := n) (k := i) (v := v) (by rw [e6]; simp)
            (repeat walk_at "mi")
            with_reducible refine w_comp (extH v) (w_range1 ?_)
            (repeat walk_at "mi")
            refine ⟨(n : Int), rfl, ?_, _, rfl, rfl, ?_, fun y hy => ?_, ?_⟩
            · unfold inR
              exact decide_eq_true (by omega)
            · rw [Int.toNat_natCast, range_len2]
              simp only [sizeLine]; omega
            · have hy := range_mem _ _ y hy
              with_reducible refine Exists.elim hy fun u hu => ?_
              rw [hu.2, Int.zero_add]
              (repeat walk_at "mi")
              show Ok (addA (.tup (v.map natD)) (.tup [natD u])) _ _
              with_reducible refine s_addT (by rw [List.length_map, hv.1]; simp only [List.length_singleton]; omega) ?_
              refine ⟨?_, rfl⟩
              show some (wayD (v ++ [((u : Nat) : Int).toNat])) = _
              rw [Int.toNat_natCast]
              unfold wayD
              rw [List.map_append]
              rfl
            rw [Int.toNat_natCast, ext_eq]
            (repeat walk_at "mi")
            have el2 : (pre.flatMap (extW n)).length + (extW n v).length ≤ 27 := by
              have h1 : rowsN n (i + 1) = pre.flatMap (extW n) ++ (extW n v ++ rest.flatMap (extW n)) := by
                show (rowsN n i).flatMap (extW n) = _
                rw [e6, List.flatMap_append, List.flatMap_cons]
              rw [h1, List.length_append, List.length_append] at len1
              omega
            with_reducible refine s_addLS (by rw [List.length_map, List.length_map]; omega) ?_
            rw [← List.map_append]
            (repeat walk_at "mi")
            exact ⟨pre ++ [v], rest, _, by rw [e6, List.append_assoc]; rfl, rfl, by rw [List.flatMap_append, List.flatMap_cons, List.flatMap_nil, List.append_nil]; rfl, rfl⟩
        · intro ρ S1 ⟨pre, rest, o11, e6, e7, e2, e3⟩
          subst e2 e3
          cases rest with
          | cons _ _ => cases e7
          | nil =>
            rw [List.append_nil] at e6
            subst e6
            (repeat walk_at "mi")
            exact ⟨i + 1, _, _, _, e5, li2, rfl, rfl⟩
      · intro ρ S1 ⟨i, o3, o11, o12, e1, li, e2, e3⟩
        have := rangeL_nil e1 li
        subst this
        subst e2 e3
        (repeat walk_at "mi")
        have rl : (rowsN n i).length ≤ 27 := by rw [rowsN_len]; exact mp _ (by omega)
        have vn : ∀ v ∈ rowsN n i, ∃ a, v[0]? = some a ∧ v.headD 0 = a ∧ (∀ x ∈ v, x < n) ∧ v.length ≤ 3 := fun v hv => by
          obtain ⟨h1, h2⟩ := rowsN_mem hv
          cases v with
          | nil => simp at h1; omega
          | cons a v => exact ⟨a, rfl, rfl, h2, by omega⟩
        have vB : ∀ v ∈ rowsN n i, SB 300 (valR n (matT t) v) := fun v hv => by
          obtain ⟨a, h1, h2, h3, h4⟩ := vn v hv
          unfold valR
          rw [h2]
          refine ((shb a (h3 a (List.mem_of_getElem? h1))).mul (prodQ_sb (fun i hi j hj => W.sb hi hj) _ (adj_mem h3))).up ?_
          have := Nat.mul_le_mul_right 23 (Nat.le_trans (adj_len v) h4)
          omega
        have vsum : ((rowsN n i).map (valR n (matT t))).sum = 1 := by
          obtain ⟨m, rfl⟩ : ∃ m, i = m + 1 := ⟨i - 1, by omega⟩
          exact val_sum W.irr n1 m
        generalize rowsN n i = vs at rl vn vB vsum
        have wg : ∀ (a : Nat) (x : D), (vs.map wayD)[a]? = some x → ∃ v, vs[a]? = some v ∧ v ∈ vs ∧ x = wayD v := fun a x h => by
          rw [List.getElem?_map] at h
          cases h2 : vs[a]? with
          | none => rw [h2] at h; cases h
          | some v =>
            rw [h2] at h
            exact ⟨v, rfl, List.mem_of_getElem? h2, (Option.some.inj h).symm⟩
        with_reducible refine w_compN vs.length (fun a d => ∃ v, vs[a]? = some v ∧ Is (valR n (matT t) v) d) (w_iseq ?_)
        (repeat walk_at "mi")
        refine ⟨_, rfl, rfl, by rw [List.length_map], by omega, fun a x ha hx => ?_, fun ys co => ?_⟩
        · have hv := wg a x hx
          with_reducible refine Exists.elim hv fun v hv => ?_
          rw [hv.2.2]
          with_reducible refine Exists.elim (vn v hv.2.1) fun z hz => ?_
          (repeat walk_at "mi")
          with_reducible refine w_callPS ?_
          (repeat walk_at "mi")
          refine ⟨⟨rfl, rfl⟩, _, rfl, ?_⟩
          show Ok (callF Fs (k + 7) 27 [tabD t, .tup (v.map natD)]) _ _
          with_reducible refine ok_seen_chance W hz.2.2.1 (by have := hz.2.2.2; omega) hz.1 fun p p1 p2 => ?_
          refine ⟨⟨v, hv.1, Is.mk p1 ?_⟩, rfl⟩
          rw [p2]
          unfold valR
          rw [hz.2.1]
        with_reducible refine Exists.elim (co_frs co) fun fs hf => ?_
        rw [hf.1]
        (repeat walk_at "mi")
        with_reducible refine w_compN vs.length (fun a d => ∃ v, vs[a]? = some v ∧ Is (valR n (matT t) v) d) (w_iseq ?_)
        (repeat walk_at "mi")
        refine ⟨_, rfl, rfl, by rw [List.length_map], by omega, fun a x ha hx => ?_, fun ys2 co2 => ?_⟩
        · have hv := wg a x hx
          with_reducible refine Exists.elim hv fun v hv => ?_
          rw [hv.2.2]
          with_reducible refine Exists.elim (vn v hv.2.1) fun z hz => ?_
          (repeat walk_at "mi")
          show Ok (callF Fs (k + 7) 42 [tabD t, rowD ss, .tup (v.map natD)]) _ _
          with_reducible refine ok_law_chance W hs hz.2.2.1 (by have := hz.2.2.2; omega) hz.1 fun p p1 p2 => ?_
          refine ⟨⟨v, hv.1, Is.mk p1 ?_⟩, rfl⟩
          rw [p2]
          unfold valR
          rw [hz.2.1]
        with_reducible refine Exists.elim (co_frs co2) fun gs hg2 => ?_
        have e9 : gs = fs := frs_eq hg2.2.1 hf.2.1 (by rw [hg2.2.2, hf.2.2])
        subst e9
        rw [hg2.1]
        have gl : gs.length = vs.length := by
          have := congrArg List.length hg2.2.2
          rwa [List.length_map, List.length_map] at this
        have gb : ∀ p ∈ gs, fB 300 p := fun p hp => by
          obtain ⟨a, ha, e⟩ := List.getElem_of_mem hp
          have h1 : (gs.map rq)[a]? = some (rq p) := by rw [List.getElem?_map, List.getElem?_eq_getElem ha, e]; rfl
          rw [hg2.2.2, List.getElem?_map] at h1
          cases h2 : vs[a]? with
          | none => rw [h2] at h1; cases h1
          | some v =>
            rw [h2] at h1
            have h3 : valR n (matT t) v = rq p := Option.some.inj h1
            exact fB_of (hg2.2.1 p hp) (by rw [← h3]; exact vB v (List.mem_of_getElem? h2))
        (repeat walk_at "mi")
        with_reducible refine Exists.elim ((shw_frs (fun p hp => (gb p hp).up (by omega)) (by omega)).repr (.inr ⟨_, rfl⟩) (by omega) (by omega) (.lst w4 :: R)) fun st2 hst2 => ?_
        with_reducible refine w_b1 ⟨_, hst2, ?_⟩
        (repeat walk_at "mi")
        with_reducible refine w_b1 ⟨_, hst2, ?_⟩
        (repeat walk_at "mi")
        rw [beq_self_eq_true]
        (repeat walk_at "mi")
        have l300 := Nat.mul_le_mul_right 301 (show gs.length ≤ 27 by omega)
        with_reducible refine ok_law_totalI (B := 300) (fs := gs) (by with_unfolding_all rfl) gb (by omega) (by omega) ?_
        have one : sumF gs = (1, 1) := (sumF_one fun p hp => (hg2.2.1 p hp).1).mpr (by rw [hg2.2.2, vsum])
        rw [one]
        (repeat walk_at "mi")
        rw [eqv_self]
        with_reducible refine s_finT (by with_unfolding_all rfl) ?_
        rw [List.length_cons, List.take_succ_cons, List.take_length]
        exact q w4 (hw4.up (by omega))
theorem ok_law {k : Nat} {ns : List Int} (hl : ns.length ≤ 63) : Ok (callF Fs (k + 9) 45 [.scr ns]) [] fun d _ => d = .bl true := by
  with_reducible refine s_call at_45 (by with_unfolding_all rfl) ?_
  unfold F_law
  dsimp only
  (repeat walk_at "mi")
  with_reducible refine ok_law_well hl (by decide) (by decide) fun w hw => ?_
  (repeat walk_at "mi")
  with_reducible refine w_for (w_range1 ?_)
  (repeat walk_at "mi")
  refine ⟨(2 : Nat), rfl, by decide, _, rfl, ?_⟩
  rw [Int.toNat_natCast]
  refine ok_forFix (fun xs ρ S1 => ∃ (i : Nat) (w : List D) (o : Option D), xs = rangeL ((i : Nat) : Int) (2 - i) ∧ i ≤ 2 ∧ ρ = [some (.scr ns), some (.loc 0), o] ∧ S1 = [.lst w] ∧ Wd (i * 3000) w) _ _ _ ⟨0, w, _, rfl, by omega, rfl, rfl, hw⟩ ?_ ?_
  · intro x xs ρ S1 ⟨i, w, o, e1, li, e2, e3, hw⟩
    obtain ⟨li2, e4, e5⟩ := rangeL_succ e1
    subst e2 e3 e4
    (repeat walk_at "mi")
    with_reducible refine ok_law_right hw (by omega) fun w' hw' => ?_
    (repeat walk_at "mi")
    exact ⟨i + 1, w', _, e5, li2, rfl, rfl, hw'.up (by omega)⟩
  · intro ρ S1 ⟨i, w, o, e1, li, e2, e3, hw⟩
    subst e2 e3
    (repeat walk_at "mi")
    with_reducible refine s_finT (by with_unfolding_all rfl) ?_
    rfl
theorem main (ns : List Int) (hl : ns.length ≤ 63) : ∃ S', callF (Ts.map FnT.F) 60 45 [.scr ns] [] = .ok (.bl true) S' := by
  obtain ⟨a, S', e, h⟩ := (ok_law (k := 51) hl).get
  exact ⟨S', by rw [← h]; exact e⟩
end Lw

open PySem PySem.W PySem.Calls PyProof.Rows
theorem holds_of (main : ∀ ns : List Int, ns.length ≤ 63 → ∃ S', MI.callF (Lw.Ts.map MI.FnT.F) 60 45 [.scr ns] [] = .ok (.bl true) S') : PySem.Challenge.rw_backwalks_k05_flows_and_chances_of_rows.Holds := by
  w_on; o_law
  refine HandSHeadRun.head_imp (r := OpenLaw.row PySem.Challenge.rw_backwalks_k05_flows_and_chances_of_rows) (q := view (OpenLaw.row PySem.Challenge.rw_backwalks_k05_flows_and_chances_of_rows).prog [0, 61]) (H := Lw.hk) (ob := Lw.ob) (M := 4000) (loose := Lw.loose) (d := HandSHeadRun.topDef (OpenLaw.row PySem.Challenge.rw_backwalks_k05_flows_and_chances_of_rows).prog 61) (kwd := []) Lw.ob_eq
    Lw.run (by kernel_rfl) (by kernel_rfl) (by kernel_rfl) (by rfl) (by first | assumption | decide +kernel) (by decide +kernel) ⟨rfl, rfl, rfl, rfl, rfl, by decide +kernel⟩ ?hw ?hc
  case hw => w_witness2
  case hc =>
    exact MI.walk_G (l := PySem.Challenge.rw_backwalks_k05_flows_and_chances_of_rows) (n := 63) (k := 60) (G := Lw.G) (Ts := Lw.Ts) (x := "script") (i := 45) (T := Lw.T_law) rfl (by decide) (by kernel_rfl) ⟨rfl, by decide, by decide⟩ (by kernel_rfl) (by kernel_rfl) rfl (fun K h mg X N c e => MI.mod_okT Lw.len_all Lw.o_all Lw.k_all X N c e) main

theorem PySem.Challenge.cw_backwalks_k05_flows_and_chances_of_rows_holds : PySem.Challenge.rw_backwalks_k05_flows_and_chances_of_rows.Holds := by
  exact holds_of Lw.main
