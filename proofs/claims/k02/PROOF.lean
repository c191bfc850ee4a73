import PyProof.Rows.All
import Wide.All
import OpenK.AllK
import Wide.FinOn
import HandS.ForMost
import HandS.ForExc
import HandS.Walk
import HandS.Gcd
import HandS.SortInts
import HandS.IsInst
import HandS.TupLe
import PyProof.ReprRoads
import HandS.ExcIs
import HandS.Rev
import HandS.Conv
import KE.GoesEnum
import PySem.Challenge.RW_relume_k02_states_checked
set_option Elab.async false
set_option linter.all false
/-! VP: what the defs reckon, over plain data (no heap). -/
namespace Vx
open PySem

abbrev D := PyData

/-- how a computation ends: a value, an exception of the program (by number), or nothing that is served -/
inductive R (α : Type) where
  | ok (a : α)
  | ex (c : Nat)
  | no

namespace R
@[simp] def bind {α β : Type} (x : R α) (f : α → R β) : R β :=
  match x with
  | .ok a => f a
  | .ex c => .ex c
  | .no => .no
theorem bind_ok {α β : Type} {x : R α} {f : α → R β} {b : β} (h : x.bind f = .ok b) : ∃ a, x = .ok a ∧ f a = .ok b := by
  cases x with
  | ok a => exact ⟨a, rfl, h⟩
  | ex c => cases h
  | no => cases h
theorem bind_assoc {α β γ : Type} (x : R α) (f : α → R β) (g : β → R γ) : (x.bind f).bind g = x.bind fun a => (f a).bind g := by
  cases x <;> rfl
end R

abbrev VEnv := List (Option D)
abbrev EF := VEnv → R D
abbrev TF := VEnv → R Bool
abbrev AF := VEnv → R (List D)

def look (ρ : VEnv) (i : Nat) : R D :=
  match ρ[i]? with
  | some (some d) => .ok d
  | _ => .no

def eV (i : Nat) : EF := fun ρ => look ρ i
def eC (d : D) : EF := fun _ => .ok d
def e1 (f : D → R D) (a : EF) : EF := fun ρ => (a ρ).bind f
def e2 (f : D → D → R D) (a b : EF) : EF := fun ρ => (a ρ).bind fun x => (b ρ).bind fun y => f x y
def aN : AF := fun _ => .ok []
def aC (a : EF) (r : AF) : AF := fun ρ => (a ρ).bind fun x => (r ρ).bind fun xs => .ok (x :: xs)
def eF (f : List D → R D) (a : AF) : EF := fun ρ => (a ρ).bind f
def big : Nat := 100000
def eTup (a : AF) : EF := fun ρ => (a ρ).bind fun xs => if xs.length ≤ big then .ok (.tuple xs) else .no
def eLst (a : AF) : EF := fun ρ => (a ρ).bind fun xs => if xs.length ≤ big then .ok (.list xs) else .no
def eIf (t : TF) (a b : EF) : EF := fun ρ => (t ρ).bind fun c => match c with
  | true => a ρ
  | false => b ρ
def asB : D → R Bool
  | .bool b => .ok b
  | _ => .no
def tB (a : EF) : TF := fun ρ => (a ρ).bind asB
def truD : D → R Bool
  | .none => .ok false
  | .bool b => .ok b
  | .int i => .ok (i != 0)
  | .list xs => .ok (!xs.isEmpty)
  | .tuple xs => .ok (!xs.isEmpty)
  | _ => .no
def tTr (a : EF) : TF := fun ρ => (a ρ).bind truD
def tAn (a b : TF) : TF := fun ρ => (a ρ).bind fun c => match c with
  | true => b ρ
  | false => .ok false
def tOr (a b : TF) : TF := fun ρ => (a ρ).bind fun c => match c with
  | true => .ok true
  | false => b ρ
def tNo (a : TF) : TF := fun ρ => (a ρ).bind fun c => .ok (!c)
def tYe : TF := fun _ => .ok true
def eAn (a b : EF) : EF := fun ρ => (a ρ).bind fun x => (asB x).bind fun c => match c with
  | true => b ρ
  | false => .ok (.bool false)
def eOr (a b : EF) : EF := fun ρ => (a ρ).bind fun x => (asB x).bind fun c => match c with
  | true => .ok (.bool true)
  | false => b ρ
def eNo (a : EF) : EF := fun ρ => (a ρ).bind fun x => (asB x).bind fun c => .ok (.bool (!c))

/-! ### chains of comparisons -/
abbrev CF := D → EF
def cLast (f : D → D → R D) (gb : EF) : CF := fun d ρ => (gb ρ).bind fun e => f d e
def cLink (f : D → D → R D) (gb : EF) (c : CF) : CF := fun d ρ => (gb ρ).bind fun e => (f d e).bind fun z => (asB z).bind fun k => match k with
  | true => c e ρ
  | false => .ok (.bool false)
def eCh (ga : EF) (c : CF) : EF := fun ρ => (ga ρ).bind fun d => c d ρ

/-! ### operators on data -/
def intD2 (f : Int → Int → D) : D → D → R D
  | .int i, .int j => .ok (f i j)
  | _, _ => .no
def addD : D → D → R D := intD2 fun i j => .int (i + j)
def subD : D → D → R D := intD2 fun i j => .int (i - j)
def lineM : Int := 2 ^ 64
def mulD : D → D → R D
  | .int i, .int j => if (-(2 ^ 64) < i ∧ i < 2 ^ 64) ∨ (-(2 ^ 64) < j ∧ j < 2 ^ 64) then .ok (.int (i * j)) else .no
  | _, _ => .no
def divD : D → D → R D
  | .int i, .int j => if j ≠ 0 ∧ j.natAbs < 1073741824 then .ok (.int (i.fdiv j)) else .no
  | _, _ => .no
def modD : D → D → R D
  | .int i, .int j => if j ≠ 0 then .ok (.int (i.fmod j)) else .no
  | _, _ => .no
def powD : D → D → R D
  | .int i, .int j => if 0 ≤ j ∧ j ≤ 1000000 ∧ i.natAbs < 2 ^ 64 then .ok (.int (i ^ j.toNat)) else .no
  | _, _ => .no
def negD : D → R D
  | .int i => .ok (.int (-i))
  | _ => .no
def ltD : D → D → R D := intD2 fun i j => .bool (decide (i < j))
def leD : D → D → R D := intD2 fun i j => .bool (decide (i ≤ j))
def gtD : D → D → R D := intD2 fun i j => .bool (decide (j < i))
def geD : D → D → R D := intD2 fun i j => .bool (decide (j ≤ i))
def okD (d : D) : Bool := d.canLay0 && decide (d.depth ≤ 64)
def eqD : D → D → R D
  | .str x, .str y => .ok (.bool (decide (x = y)))
  | x, y => if okD x && okD y then .ok (.bool (PyData.eqv x y)) else .no
def neD : D → D → R D
  | .str x, .str y => .ok (.bool (!decide (x = y)))
  | x, y => if okD x && okD y then .ok (.bool (!PyData.eqv x y)) else .no
def isNoneD : D → D → R D
  | .none, .none => .ok (.bool true)
  | _, .none => .ok (.bool false)
  | _, _ => .no
def isNotNoneD : D → D → R D
  | .none, .none => .ok (.bool false)
  | _, .none => .ok (.bool true)
  | _, _ => .no
/-- x is True -/
def isBoolD : D → D → R D
  | .bool a, .bool b => .ok (.bool (a == b))
  | _, _ => .no
def catD : D → D → R D
  | .list xs, .list ys => if xs.length + ys.length ≤ big then .ok (.list (xs ++ ys)) else .no
  | _, _ => .no
def repD : D → D → R D
  | .list xs, .int k => if -(2 ^ 63) ≤ k ∧ k < 2 ^ 63 ∧ xs.length * k.toNat ≤ big then .ok (.list (List.replicate k.toNat xs).flatten) else .no
  | _, _ => .no
def catTD : D → D → R D
  | .tuple xs, .tuple ys => if xs.length + ys.length ≤ big ∧ xs ≠ [] ∧ ys ≠ [] then .ok (.tuple (xs ++ ys)) else .no
  | _, _ => .no
/-- the place that an index names -/
def ixAt (n : Nat) (i : Int) : Option Nat := if 0 ≤ i then (if i < n then some i.toNat else none) else if -(n : Int) ≤ i then some (i + n).toNat else none
def itemAt (xs : List D) (i : Int) : R D :=
  match ixAt xs.length i with
  | some k => (match xs[k]? with
    | some d => .ok d
    | none => .no)
  | none => .no
def ixD : D → D → R D
  | .list xs, .int i => itemAt xs i
  | .tuple xs, .int i => itemAt xs i
  | _, _ => .no
def flatD : D → Bool
  | .list _ | .tuple _ | .dict _ => false
  | _ => true
/-- equality of flat data -/
def eqF : D → D → Bool
  | .none, .none => true
  | .bool a, .bool b => a == b
  | .bool a, .int j => (if a then 1 else 0) == j
  | .int i, .bool b => i == (if b then 1 else 0)
  | .int i, .int j => i == j
  | .str x, .str y => decide (x = y)
  | _, _ => false
def inD (x : D) : D → R D
  | .list xs => if flatD x && xs.all flatD then .ok (.bool (xs.any fun y => eqF y x)) else .no
  | .tuple xs => if flatD x && xs.all flatD then .ok (.bool (xs.any fun y => eqF y x)) else .no
  | _ => .no
def notInD (x : D) : D → R D
  | .list xs => if flatD x && xs.all flatD then .ok (.bool (!xs.any fun y => eqF y x)) else .no
  | .tuple xs => if flatD x && xs.all flatD then .ok (.bool (!xs.any fun y => eqF y x)) else .no
  | _ => .no
def sIxV (n d : Nat) : Option Int → Nat
  | none => d
  | some i => if i < 0 then (i + n).toNat else min i.toNat n
def cutL (xs : List D) (lo hi : Option Int) : List D := (xs.drop (sIxV xs.length 0 lo)).take (sIxV xs.length xs.length hi - sIxV xs.length 0 lo)

/-! ### built-ins on data -/
def fLen : List D → R D
  | [.list xs] => .ok (.int xs.length)
  | [.tuple xs] => .ok (.int xs.length)
  | _ => .no
def fAbs : List D → R D
  | [.int i] => .ok (.int (if i < 0 then -i else i))
  | _ => .no
def fMax2 : List D → R D
  | [.int i, .int j] => .ok (.int (if j > i then j else i))
  | _ => .no
def fMin2 : List D → R D
  | [.int i, .int j] => .ok (.int (if j < i then j else i))
  | _ => .no
def fInt : List D → R D
  | [.int i] => .ok (.int i)
  | [.bool b] => .ok (.int (if b then 1 else 0))
  | _ => .no
def fList : List D → R D
  | [.list xs] => .ok (.list xs)
  | [.tuple xs] => .ok (.list xs)
  | _ => .no
def fTuple : List D → R D
  | [.list xs] => .ok (.tuple xs)
  | [.tuple xs] => .ok (.tuple xs)
  | _ => .no
def asInts : List D → Option (List Int)
  | [] => some []
  | .int i :: r => (asInts r).map (i :: ·)
  | _ :: _ => none
def asBools : List D → Option (List Bool)
  | [] => some []
  | .bool i :: r => (asBools r).map (i :: ·)
  | _ :: _ => none
def fSum : List D → R D
  | [.list xs] => (match asInts xs with
    | some ns => .ok (.int ns.sum)
    | none => .no)
  | _ => .no
def fAny : List D → R D
  | [.list xs] => (match asBools xs with
    | some bs => .ok (.bool (bs.any id))
    | none => .no)
  | _ => .no
def fAll : List D → R D
  | [.list xs] => (match asBools xs with
    | some bs => .ok (.bool (bs.all id))
    | none => .no)
  | _ => .no
def insI (i : Int) : List Int → List Int
  | [] => [i]
  | j :: r => if i ≤ j then i :: j :: r else j :: insI i r
def sortI : List Int → List Int
  | [] => []
  | i :: r => insI i (sortI r)
def fSorted : List D → R D
  | [.list xs] => (match asInts xs with
    | some ns => .ok (.list ((sortI ns).map .int))
    | none => .no)
  | _ => .no
def fGcd : List D → R D
  | [.int a, .int b] => .ok (.int ((Nat.gcd a.natAbs b.natAbs : Nat) : Int))
  | _ => .no
def fRepr : List D → R D
  | [d] => if d.showable && decide (d.depth ≤ 64) && decide (d.shown.length ≤ sizeLine) && okD d && !flatD d then .ok (.str d.shown) else .no
  | _ => .no
def fIsBool : List D → R D
  | [.bool _] => .ok (.bool true)
  | [_] => .ok (.bool false)
  | _ => .no
def fIsList : List D → R D
  | [.list _] => .ok (.bool true)
  | [_] => .ok (.bool false)
  | _ => .no

/-! ### what is walked -/
def rangeD (lo hi : Int) : List D := (List.range (hi - lo).toNat).map fun k => .int (lo + (k : Nat))
def iSeq (a : EF) : AF := fun ρ => (a ρ).bind fun d => match d with
  | .list xs => .ok xs
  | _ => .no
def iTup (a : EF) : AF := fun ρ => (a ρ).bind fun d => match d with
  | .tuple xs => .ok xs
  | _ => .no
def rng1 : List D → R (List D)
  | [.int j] => if -(2 ^ 62) ≤ j ∧ j < 2 ^ 62 then .ok (rangeD 0 j) else .no
  | _ => .no
def rng2 : List D → R (List D)
  | [.int i, .int j] => if -(2 ^ 62) ≤ i ∧ i < 2 ^ 62 ∧ -(2 ^ 62) ≤ j ∧ j < 2 ^ 62 then .ok (rangeD i j) else .no
  | _ => .no
def iRg1 (a : AF) : AF := fun ρ => (a ρ).bind rng1
def iRg2 (a : AF) : AF := fun ρ => (a ρ).bind rng2
def enumD : Nat → List D → List D
  | _, [] => []
  | i, d :: ds => .tuple [.int i, d] :: enumD (i + 1) ds
def zipD : List D → List D → List D
  | a :: as, b :: bs => .tuple [a, b] :: zipD as bs
  | _, _ => []
def iEnu (a : AF) : AF := fun ρ => (a ρ).bind fun xs => match xs with
  | [.list ds] => .ok (enumD 0 ds)
  | _ => .no
def iZip (a : AF) : AF := fun ρ => (a ρ).bind fun xs => match xs with
  | [.list as, .list bs] => .ok (zipD as bs)
  | _ => .no

/-! ### targets -/
abbrev GF := D → VEnv → R VEnv
def gN (i : Nat) : GF := fun d ρ => .ok (ρ.set i (some d))
def gsN : List D → VEnv → R VEnv
  | [], ρ => .ok ρ
  | _ :: _, _ => .no
def gsC (g : GF) (r : List D → VEnv → R VEnv) : List D → VEnv → R VEnv
  | [], _ => .no
  | d :: ds, ρ => (g d ρ).bind fun ρ' => r ds ρ'
def gT (n : Nat) (t : List D → VEnv → R VEnv) : GF := fun d ρ => match d with
  | .tuple xs => if xs.length = n then t xs ρ else .no
  | _ => .no

/-! ### comprehensions -/
def wipeE (ρ : VEnv) : List Nat → VEnv
  | [] => ρ
  | v :: vs => (wipeE ρ vs).set v none
def lcGo (g : GF) (t : TF) (e : EF) (ρ : VEnv) : List D → R (List D)
  | [] => .ok []
  | d :: ds => (g d ρ).bind fun ρ' => (t ρ').bind fun c => match c with
    | true => (e ρ').bind fun x => (lcGo g t e ρ ds).bind fun xs => .ok (x :: xs)
    | false => lcGo g t e ρ ds
/-- an exception within a comprehension is not served -/
def noX {α : Type} : R α → R α
  | .ok a => .ok a
  | _ => .no
def eLc (i : AF) (g : GF) (t : TF) (e : EF) (vs : List Nat) : EF := fun ρ => (i ρ).bind fun ds => if ds.length ≤ big then (noX (lcGo g t e (wipeE ρ vs) ds)).bind fun xs => .ok (.list xs) else .no

/-! ### statements -/
inductive Out where
  | nx (ρ : VEnv)
  | rt (d : D)
  | bk (ρ : VEnv)
  | ct (ρ : VEnv)
abbrev SF := VEnv → R Out
def sNop : SF := fun ρ => .ok (.nx ρ)
def sSeq (a b : SF) : SF := fun ρ => (a ρ).bind fun r => match r with
  | .nx ρ' => b ρ'
  | .rt d => .ok (.rt d)
  | .bk ρ' => .ok (.bk ρ')
  | .ct ρ' => .ok (.ct ρ')
def sSet (i : Nat) (e : EF) : SF := fun ρ => (e ρ).bind fun d => .ok (.nx (ρ.set i (some d)))
def sAsg (g : GF) (e : EF) : SF := fun ρ => (e ρ).bind fun d => (noX (g d ρ)).bind fun ρ' => .ok (.nx ρ')
def sDo (e : EF) : SF := fun ρ => (e ρ).bind fun _ => .ok (.nx ρ)
def sRet (e : EF) : SF := fun ρ => (e ρ).bind fun d => .ok (.rt d)
def sIf (t : TF) (a b : SF) : SF := fun ρ => (t ρ).bind fun c => match c with
  | true => a ρ
  | false => b ρ
def sBrk : SF := fun ρ => .ok (.bk ρ)
def sCnt : SF := fun ρ => .ok (.ct ρ)
def sRai (c : Nat) : SF := fun _ => .ex c
def forGo (g : GF) (b : SF) : List D → VEnv → R Out
  | [], ρ => .ok (.nx ρ)
  | d :: ds, ρ => (noX (g d ρ)).bind fun ρ' => (b ρ').bind fun r => match r with
    | .nx ρ2 => forGo g b ds ρ2
    | .ct ρ2 => forGo g b ds ρ2
    | .bk ρ2 => .ok (.nx ρ2)
    | .rt v => .ok (.rt v)
def sFor (i : AF) (g : GF) (b : SF) : SF := fun ρ => (i ρ).bind fun ds => if ds.length ≤ big then forGo g b ds ρ else .no
/-- xs.append(e) -/
def sApp (i : Nat) (e : EF) : SF := fun ρ => match look ρ i with
  | .ok (.list xs) => (e ρ).bind fun d => if xs.length < big then .ok (.nx (ρ.set i (some (.list (xs ++ [d]))))) else .no
  | _ => .no
/-- xs[k] = e -/
def sPut (i : Nat) (k e : EF) : SF := fun ρ => (e ρ).bind fun d => match look ρ i with
  | .ok (.list xs) => (k ρ).bind fun kd => match kd with
    | .int j => (match ixAt xs.length j with
      | some n => .ok (.nx (ρ.set i (some (.list (xs.set n d)))))
      | none => .no)
    | _ => .no
  | _ => .no
def whileGo (t : TF) (b : SF) : Nat → VEnv → R Out
  | 0, _ => .no
  | n + 1, ρ => (t ρ).bind fun c => match c with
    | false => .ok (.nx ρ)
    | true => (b ρ).bind fun r => match r with
      | .nx ρ2 => whileGo t b n ρ2
      | .ct ρ2 => whileGo t b n ρ2
      | .bk ρ2 => .ok (.nx ρ2)
      | .rt v => .ok (.rt v)

/-! ### further -/
/-- an exception, as data -/
def exnD (n : Nat) : D := .dict [(.none, .int n)]

/-- what a scalar is does not hang on the heap -/
def scD : D → Bool
  | .none | .bool _ | .int _ | .str _ => true
  | _ => false
def scG (g : EF) : EF := fun ρ => (g ρ).bind fun d => if scD d = true then .ok d else .no
/-- isinstance against a built-in type -/
def tyD : D → Option String
  | .none => some "NoneType"
  | .bool _ => some "bool"
  | .int _ => some "int"
  | .str _ => some "str"
  | .list _ => some "list"
  | .tuple _ => some "tuple"
  | .dict _ => none
def subT (t T : String) : Bool := t == T || (t == "bool" && T == "int")
def isiD (T : String) (d : D) : R D := match tyD d with
  | some t => .ok (.bool (subT t T))
  | none => .no
abbrev OF := VEnv → R (Option Int)
def oN : OF := fun _ => .ok none
def asI : D → R (Option Int)
  | .int i => .ok (some i)
  | _ => .no
def oS (g : EF) : OF := fun ρ => (g ρ).bind asI
def eSl (g : EF) (lo hi : OF) : EF := fun ρ => (g ρ).bind fun d => (lo ρ).bind fun a => (hi ρ).bind fun b => match d with
  | .list xs => .ok (.list (cutL xs a b))
  | _ => .no
/-- a while that ends: by any number of turns that is enough -/
def sWhile (n : VEnv → Nat) (t : TF) (b : SF) : SF := fun ρ => whileGo t b (n ρ) ρ
/-- the body's exception, if it is one of cs, is handed to the suite, which returns -/
def sTry (i : Nat) (cs : List Nat) (g : EF) (f : SF) : SF := fun ρ => match g ρ with
  | .ok _ => .ok (.nx ρ)
  | .ex m => if cs.contains m then (match f (ρ.set i (some (exnD m))) with
    | .ok (.rt d) => if okD d then .ok (.rt d) else .no
    | _ => .no) else .no
  | .no => .no
/-- numbers: 0 is LightError, 100 ValueError -/
def excSub (n m : Nat) : Bool := decide (m = 0) || decide (m = 100) || decide (n = m)
def asX : D → Option Nat
  | .dict [(.none, .int n)] => some n.toNat
  | _ => none
def isExD (ms : List Nat) (d : D) : R D := match asX d with
  | some n => .ok (.bool (ms.any fun m => excSub n m))
  | none => .no

/-! ### a def -/
def fnF (n : Nat) (b : SF) : List D → R D := fun ds => (b (ds.map some ++ List.replicate (n - ds.length) none)).bind fun r => match r with
  | .nx _ => .ok .none
  | .rt d => .ok d
  | _ => .no
end Vx

set_option Elab.async false
set_option linter.all false
set_option maxRecDepth 100000
set_option maxHeartbeats 4000000
/-! VW1: data in the heap, and the readings by data: expressions and tests. -/
namespace Vx
open PySem L2

/-- the class whose instances are data; the exception that is being handled: its object, its number -/
structure Rc where
  CI : Addr
  xa : Option (Addr × Nat)
/-- .. and the classes of the exceptions by number -/
structure Vp where
  rc : Rc
  ea : Nat → Addr
/-- a list of xs: tracked, locked, or exactly so in the written part -/
def SqR (K : PySem.W.Frag) (H : Hp) (a : Addr) (xs : List V) : Prop :=
  Rd H a (.lst xs) ∨ ∃ (its : Array Value) (n : Nat), K.lookup a = some { cls := .type "list", data := .seq its n } ∧ its.size ≤ sizeLine ∧ Vals xs its.toList

mutual
inductive Rp (K : PySem.W.Frag) (C : Rc) (H : Hp) : V → D → Prop
  | non : Rp K C H .non .none
  | bl (b : Bool) : Rp K C H (.bl b) (.bool b)
  | int (i : Int) : Rp K C H (.int i) (.int i)
  | str (x : Str) : Rp K C H (.str x) (.str x)
  | lst {a : Addr} {xs : List V} {ds : List D} : SqR K H a xs → RpA K C H xs ds → Rp K C H (.ref a) (.list ds)
  | tup {a : Addr} {xs : List V} {ds : List D} : SqT K H a xs → RpA K C H xs ds → Rp K C H (.ref a) (.tuple ds)
  | obj {a dx : Addr} {fs : List (Str × V)} {kvs : List (D × D)} : H a = some (.ins C.CI dx fs) → RpF K C H fs kvs → Rp K C H (.ref a) (.dict kvs)
  | exn {a : Addr} {n : Nat} : C.xa = some (a, n) → Rp K C H (.ref a) (.dict [(.none, .int n)])
inductive RpA (K : PySem.W.Frag) (C : Rc) (H : Hp) : List V → List D → Prop
  | nil : RpA K C H [] []
  | cons {v : V} {vs : List V} {d : D} {ds : List D} : Rp K C H v d → RpA K C H vs ds → RpA K C H (v :: vs) (d :: ds)
inductive RpF (K : PySem.W.Frag) (C : Rc) (H : Hp) : List (Str × V) → List (D × D) → Prop
  | nil : RpF K C H [] []
  | cons {f : Str} {v : V} {fs : List (Str × V)} {d : D} {ds : List (D × D)} : Rp K C H v d → RpF K C H fs ds → RpF K C H ((f, v) :: fs) ((.str f, d) :: ds)
end

theorem rd_mono {H H' : Hp} {a : Addr} {u : HO} (e : Same H H') (h : Rd H a u) : Rd H' a u := by
  rcases h with h | ⟨o, h⟩
  · exact .inl (e a _ h)
  · exact .inr ⟨o, e a _ h⟩
theorem sqr_mono {K : PySem.W.Frag} {H H' : Hp} {a : Addr} {xs : List V} (e : Same H H') (h : SqR K H a xs) : SqR K H' a xs := by
  rcases h with h | h
  · exact .inl (rd_mono e h)
  · exact .inr h
theorem sqr_l {K : PySem.W.Frag} {H : Hp} {a : Addr} {xs : List V} (h : SqR K H a xs) : SqL K H a xs := by
  rcases h with h | ⟨its, n, h1, h2, h3⟩
  · exact .inl h
  · exact .inr ⟨_, its, n, h1, rfl, rfl, rfl, h2, h3⟩
theorem sqt_mono {K : PySem.W.Frag} {H H' : Hp} {a : Addr} {xs : List V} (e : Same H H') (h : SqT K H a xs) : SqT K H' a xs := by
  rcases h with h | h
  · exact .inl (rd_mono e h)
  · exact .inr h

section
variable {K : PySem.W.Frag} {C : Rc} {H H' : Hp}
mutual
theorem Rp.mono (e : Same H H') : ∀ (d : D) (v : V), Rp K C H v d → Rp K C H' v d
  | .none, _, h => by cases h; exact .non
  | .bool b, _, h => by cases h; exact .bl b
  | .int i, _, h => by cases h; exact .int i
  | .str x, _, h => by cases h; exact .str x
  | .list ds, _, h => by
    cases h with
    | lst h1 h2 => exact .lst (sqr_mono e h1) (RpA.mono e ds _ h2)
  | .tuple ds, _, h => by
    cases h with
    | tup h1 h2 => exact .tup (sqt_mono e h1) (RpA.mono e ds _ h2)
  | .dict kvs, _, h => by
    cases h with
    | obj h1 h2 => exact .obj (e _ _ h1) (RpF.mono e kvs _ h2)
    | exn h1 => exact .exn h1
theorem RpA.mono (e : Same H H') : ∀ (ds : List D) (vs : List V), RpA K C H vs ds → RpA K C H' vs ds
  | [], _, h => by cases h; exact .nil
  | d :: ds, _, h => by
    cases h with
    | cons h1 h2 => exact .cons (Rp.mono e d _ h1) (RpA.mono e ds _ h2)
theorem RpF.mono (e : Same H H') : ∀ (ds : List (D × D)) (vs : List (Str × V)), RpF K C H vs ds → RpF K C H' vs ds
  | [], _, h => by cases h; exact .nil
  | (k, d) :: ds, _, h => by
    cases h with
    | cons h1 h2 => exact .cons (Rp.mono e d _ h1) (RpF.mono e ds _ h2)
end
theorem Rp.up {v : V} {d : D} (h : Rp K C H v d) (e : Same H H') : Rp K C H' v d := Rp.mono e d v h
theorem RpA.up {v : List V} {d : List D} (h : RpA K C H v d) (e : Same H H') : RpA K C H' v d := RpA.mono e d v h
mutual
theorem Rp.dp : ∀ (d : D) (v : V), Rp K C H v d → d.canLay0 = true → Dp K H v d
  | .none, _, h, _ => by cases h; exact .non
  | .bool b, _, h, _ => by cases h; exact .bl b
  | .int i, _, h, _ => by cases h; exact .int i
  | .str x, _, h, _ => by cases h; exact .str x
  | .list ds, _, h, z => by
    cases h with
    | lst h1 h2 => exact .lst (sqr_l h1) (RpA.dp ds _ h2 (by simpa [PyData.canLay0] using z))
  | .tuple ds, _, h, z => by
    cases h with
    | tup h1 h2 => exact .tup h1 (RpA.dp ds _ h2 (by simpa [PyData.canLay0] using z))
  | .dict kvs, _, h, z => by simp [PyData.canLay0] at z
theorem RpA.dp : ∀ (ds : List D) (vs : List V), RpA K C H vs ds → PyData.canLayAll0 ds = true → DpAll K H vs ds
  | [], _, h, _ => by cases h; exact .nil
  | d :: ds, _, h, z => by
    cases h with
    | cons h1 h2 =>
      simp only [PyData.canLayAll0, Bool.and_eq_true] at z
      exact .cons (Rp.dp d _ h1 z.1) (RpA.dp ds _ h2 z.2)
end
section
variable {C' : Rc}
mutual
/-- plain data does not hang on the record -/
theorem Rp.any : ∀ (d : D) (v : V), Rp K C H v d → d.canLay0 = true → Rp K C' H v d
  | .none, _, h, _ => by cases h; exact .non
  | .bool b, _, h, _ => by cases h; exact .bl b
  | .int i, _, h, _ => by cases h; exact .int i
  | .str x, _, h, _ => by cases h; exact .str x
  | .list ds, _, h, z => by
    cases h with
    | lst h1 h2 => exact .lst h1 (RpA.any ds _ h2 (by simpa [PyData.canLay0] using z))
  | .tuple ds, _, h, z => by
    cases h with
    | tup h1 h2 => exact .tup h1 (RpA.any ds _ h2 (by simpa [PyData.canLay0] using z))
  | .dict kvs, _, h, z => by simp [PyData.canLay0] at z
theorem RpA.any : ∀ (ds : List D) (vs : List V), RpA K C H vs ds → PyData.canLayAll0 ds = true → RpA K C' H vs ds
  | [], _, h, _ => by cases h; exact .nil
  | d :: ds, _, h, z => by
    cases h with
    | cons h1 h2 =>
      simp only [PyData.canLayAll0, Bool.and_eq_true] at z
      exact .cons (Rp.any d _ h1 z.1) (RpA.any ds _ h2 z.2)
end
mutual
/-- nothing was handled, now something is -/
theorem Rp.hot (e : C'.CI = C.CI) (n : C.xa = none) : ∀ (d : D) (v : V), Rp K C H v d → Rp K C' H v d
  | .none, _, h => by cases h; exact .non
  | .bool b, _, h => by cases h; exact .bl b
  | .int i, _, h => by cases h; exact .int i
  | .str x, _, h => by cases h; exact .str x
  | .list ds, _, h => by
    cases h with
    | lst h1 h2 => exact .lst h1 (RpA.hot e n ds _ h2)
  | .tuple ds, _, h => by
    cases h with
    | tup h1 h2 => exact .tup h1 (RpA.hot e n ds _ h2)
  | .dict kvs, _, h => by
    cases h with
    | obj h1 h2 => exact .obj (by rw [e]; exact h1) (RpF.hot e n kvs _ h2)
    | exn h1 => rw [n] at h1; cases h1
theorem RpA.hot (e : C'.CI = C.CI) (n : C.xa = none) : ∀ (ds : List D) (vs : List V), RpA K C H vs ds → RpA K C' H vs ds
  | [], _, h => by cases h; exact .nil
  | d :: ds, _, h => by
    cases h with
    | cons h1 h2 => exact .cons (Rp.hot e n d _ h1) (RpA.hot e n ds _ h2)
theorem RpF.hot (e : C'.CI = C.CI) (n : C.xa = none) : ∀ (ds : List (D × D)) (vs : List (Str × V)), RpF K C H vs ds → RpF K C' H vs ds
  | [], _, h => by cases h; exact .nil
  | (k, d) :: ds, _, h => by
    cases h with
    | cons h1 h2 => exact .cons (Rp.hot e n d _ h1) (RpF.hot e n ds _ h2)
end
end
theorem RpA.len : ∀ {vs : List V} {ds : List D}, RpA K C H vs ds → vs.length = ds.length
  | _, _, .nil => rfl
  | _, _, .cons _ t => congrArg (· + 1) (RpA.len t)
theorem RpA.get : ∀ {vs : List V} {ds : List D} {i : Nat} {d : D}, RpA K C H vs ds → ds[i]? = some d → ∃ v, vs[i]? = some v ∧ Rp K C H v d
  | _, _, _, _, .nil, e => by simp at e
  | _, _, 0, _, .cons h _, e => by simp at e; subst e; exact ⟨_, rfl, h⟩
  | _, _, i + 1, _, .cons _ t, e => by
    obtain ⟨v, h1, h2⟩ := RpA.get (i := i) t (by simpa using e)
    exact ⟨v, by simpa using h1, h2⟩
theorem RpA.getV : ∀ {vs : List V} {ds : List D} {i : Nat} {v : V}, RpA K C H vs ds → vs[i]? = some v → ∃ d, ds[i]? = some d ∧ Rp K C H v d
  | _, _, _, _, .nil, e => by simp at e
  | _, _, 0, _, .cons h _, e => by simp at e; subst e; exact ⟨_, rfl, h⟩
  | _, _, i + 1, _, .cons _ t, e => by
    obtain ⟨v, h1, h2⟩ := RpA.getV (i := i) t (by simpa using e)
    exact ⟨v, by simpa using h1, h2⟩
theorem RpA.app : ∀ {vs ws : List V} {ds es : List D}, RpA K C H vs ds → RpA K C H ws es → RpA K C H (vs ++ ws) (ds ++ es)
  | _, _, _, _, .nil, s => s
  | _, _, _, _, .cons h t, s => .cons h (RpA.app t s)
theorem RpA.set {v : V} {d : D} (r : Rp K C H v d) : ∀ {vs : List V} {ds : List D} (i : Nat), RpA K C H vs ds → RpA K C H (vs.set i v) (ds.set i d)
  | _, _, _, .nil => .nil
  | _, _, 0, .cons _ t => .cons r t
  | _, _, i + 1, .cons q t => .cons q (RpA.set r i t)
theorem RpA.take : ∀ {vs : List V} {ds : List D} (n : Nat), RpA K C H vs ds → RpA K C H (vs.take n) (ds.take n)
  | _, _, 0, _ => .nil
  | _, _, _ + 1, .nil => .nil
  | _, _, n + 1, .cons r t => .cons r (RpA.take n t)
theorem RpA.drop : ∀ {vs : List V} {ds : List D} (n : Nat), RpA K C H vs ds → RpA K C H (vs.drop n) (ds.drop n)
  | _, _, 0, r => r
  | _, _, _ + 1, .nil => .nil
  | _, _, n + 1, .cons _ t => RpA.drop n t
theorem RpA.rep {vs : List V} {ds : List D} (r : RpA K C H vs ds) : ∀ n : Nat, RpA K C H (List.replicate n vs).flatten (List.replicate n ds).flatten
  | 0 => .nil
  | n + 1 => by
    rw [List.replicate_succ, List.replicate_succ, List.flatten_cons, List.flatten_cons]
    exact RpA.app r (RpA.rep r n)
theorem RpA.ints : ∀ {ns : List Int}, RpA K C H (ns.map V.int) (ns.map PyData.int)
  | [] => .nil
  | i :: r => .cons (.int i) RpA.ints
theorem RpA.ofInts : ∀ {vs : List V} {ds : List D} {ns : List Int}, RpA K C H vs ds → asInts ds = some ns → vs = ns.map V.int
  | _, _, _, .nil, e => by cases e; rfl
  | _, _, ns, .cons (d := d) (ds := ds) h t, e => by
    cases h with
    | int i =>
      cases q : asInts ds with
      | none => rw [asInts, q] at e; cases e
      | some ms =>
        rw [asInts, q] at e
        cases e
        rw [List.map_cons, RpA.ofInts t q]
    | _ => cases e
theorem RpA.ofBools : ∀ {vs : List V} {ds : List D} {ns : List Bool}, RpA K C H vs ds → asBools ds = some ns → vs = ns.map V.bl
  | _, _, _, .nil, e => by cases e; rfl
  | _, _, ns, .cons (d := d) (ds := ds) h t, e => by
    cases h with
    | bl i =>
      cases q : asBools ds with
      | none => rw [asBools, q] at e; cases e
      | some ms =>
        rw [asBools, q] at e
        cases e
        rw [List.map_cons, RpA.ofBools t q]
    | _ => cases e
end

/-! ### the frozen part of a heap -/
structure Ext (F H F' : Hp) : Prop where
  up : Same F F'
  new : ∀ a o, F' a = some o → (∃ u, F a = some u) ∨ H a = none
theorem Ext.refl (F H : Hp) : Ext F H F := ⟨Same.refl F, fun _ o h => .inl ⟨o, h⟩⟩
theorem none_back {H H1 : Hp} (s : Same H H1) {a : Addr} (h : H1 a = none) : H a = none := by
  cases q : H a with
  | none => rfl
  | some o => rw [s a o q] at h; cases h
theorem Ext.trans {F H F1 H1 F2 : Hp} (a : Ext F H F1) (s : Same H H1) (b : Ext F1 H1 F2) : Ext F H F2 :=
  ⟨a.up.trans b.up, fun x o h => by
    rcases b.new x o h with ⟨u, z⟩ | z
    · exact a.new x u z
    · exact .inr (none_back s z)⟩
theorem Ext.at {F H H1 F1 : Hp} (s : Same H H1) (b : Ext F H1 F1) : Ext F H F1 := ⟨b.up, fun x o h => (b.new x o h).imp id fun z => none_back s z⟩
theorem Ext.one {F H : Hp} {p : Addr} {o : HO} (h : H p = none) (s : Same F H) : Ext F H (upd F p o) :=
  ⟨fun a u e => by rw [upd_ne (ne_of_none (s a u e) h)]; exact e, fun a u e => by
    by_cases q : a = p
    · subst q; exact .inr h
    · rw [upd_ne q] at e; exact .inl ⟨u, e⟩⟩
theorem same_upd {H : Hp} {p : Addr} {o : HO} (h : H p = none) : Same H (upd H p o) := fun a u e => by
  rw [upd_ne (ne_of_none e h)]; exact e
theorem same_upd2 {F H : Hp} {p : Addr} {o : HO} (s : Same F H) : Same (upd F p o) (upd H p o) := fun a u e => by
  by_cases q : a = p
  · subst q; rw [upd_same] at e ⊢; exact e
  · rw [upd_ne q] at e ⊢; exact s a u e
/-- an address that is known outside the frozen part stays outside -/
theorem Ext.out {F H F' : Hp} (x : Ext F H F') {p : Addr} {o : HO} (h : H p = some o) (f : F p = none) : F' p = none := by
  cases q : F' p with
  | none => rfl
  | some u =>
    rcases x.new p u q with ⟨z, e⟩ | e
    · rw [f] at e; cases e
    · rw [h] at e; cases e

/-! ### how a reading ends -/
def Hd {α : Type} (E : XK) (W : Vp) (H : Hp) (r : R α) (k : α → Prop) : Prop :=
  match r with
  | .ok a => k a
  | .ex c => ∀ H', Same H H' → E (.ref (W.ea c)) none H'
  | .no => False
section
variable {α β : Type} {E : XK} {W : Vp} {H H' : Hp} {r : R α} {k k' : α → Prop}
theorem hd_bind {f : α → R β} {k : β → Prop} (h : Hd E W H (r.bind f) k) : Hd E W H r fun a => Hd E W H (f a) k := by
  cases r with
  | ok a => exact h
  | ex c => exact h
  | no => exact h
theorem Hd.imp (h : Hd E W H r k) (i : ∀ a, k a → k' a) : Hd E W H r k' := by
  cases r with
  | ok a => exact i a h
  | ex c => exact h
  | no => exact h
theorem Hd.imp' (h : Hd E W H r k) (i : ∀ a, r = .ok a → k a → k' a) : Hd E W H r k' := by
  cases r with
  | ok a => exact i a rfl h
  | ex c => exact h
  | no => exact h
theorem Hd.heap (h : Hd E W H r k) (s : Same H H') : Hd E W H' r k := by
  cases r with
  | ok a => exact h
  | ex c => exact fun H2 z => h H2 (s.trans z)
  | no => exact h
end

/-! ### the slots -/
def EnvOk (K : PySem.W.Frag) (W : Vp) (x : List Nat) (F H : Hp) (σ : L2.St) (ρ : VEnv) : Prop :=
  σ.length = ρ.length ∧ ∀ i d, ρ[i]? = some (some d) → ∃ v, σ[i]? = some (some v) ∧ Rp K W.rc H v d ∧ (i ∉ x → Rp K W.rc F v d)
theorem EnvOk.mono {K : PySem.W.Frag} {W : Vp} {x : List Nat} {F H F' H' : Hp} {σ : L2.St} {ρ : VEnv} (e : EnvOk K W x F H σ ρ) (f : Same F F') (h : Same H H') : EnvOk K W x F' H' σ ρ := ⟨e.1, fun i d q => by
  obtain ⟨v, a, b, c⟩ := e.2 i d q
  exact ⟨v, a, b.up h, fun z => (c z).up f⟩⟩

def VPost (K : PySem.W.Frag) (W : Vp) (F H : Hp) (Q : VK) (d : D) : Prop := ∀ v H' F', Same H H' → Ext F H F' → Same F' H' → Rp K W.rc F' v d → Q v H'
def NPost (K : PySem.W.Frag) (W : Vp) (F H : Hp) (Q : VK) (d : D) : Prop := ∀ p vs ds H' F', d = .list ds → Same H H' → Ext F H F' → Same F' H' → H p = none → F' p = none → H' p = some (.lst vs) → RpA K W.rc F' vs ds → Q (.ref p) H'
def APost (K : PySem.W.Frag) (W : Vp) (F H : Hp) (Q : List V → Hp → Prop) (ds : List D) : Prop := ∀ vs H' F', Same H H' → Ext F H F' → Same F' H' → RpA K W.rc F' vs ds → Q vs H'
theorem VPost.step {K : PySem.W.Frag} {W : Vp} {F H F1 H1 : Hp} {Q : VK} {d : D} (h : VPost K W F H Q d) (s : Same H H1) (e : Ext F H F1) : VPost K W F1 H1 Q d := fun v H' F' a b c r => h v H' F' (s.trans a) (e.trans s b) c r
theorem NPost.step {K : PySem.W.Frag} {W : Vp} {F H F1 H1 : Hp} {Q : VK} {d : D} (h : NPost K W F H Q d) (s : Same H H1) (e : Ext F H F1) : NPost K W F1 H1 Q d := fun p vs ds H' F' z a b c n m l r => h p vs ds H' F' z (s.trans a) (e.trans s b) c (none_back s n) m l r
theorem APost.step {K : PySem.W.Frag} {W : Vp} {F H F1 H1 : Hp} {Q : List V → Hp → Prop} {d : List D} (h : APost K W F H Q d) (s : Same H H1) (e : Ext F H F1) : APost K W F1 H1 Q d := fun v H' F' a b c r => h v H' F' (s.trans a) (e.trans s b) c r
/-- a new list is data too -/
theorem VPost.n {K : PySem.W.Frag} {W : Vp} {F H : Hp} {Q : VK} {d : D} (h : VPost K W F H Q d) : NPost K W F H Q d := fun p vs ds H' F' z s e t n m l r => by
  have s1 : Same F' (upd F' p (.lst vs)) := same_upd m
  refine h (.ref p) H' (upd F' p (.lst vs)) s ⟨e.up.trans s1, fun a u q => ?_⟩ (fun a u q => ?_) ?_
  · by_cases y : a = p
    · subst y; exact .inr n
    · rw [upd_ne y] at q; exact e.new a u q
  · by_cases y : a = p
    · subst y; rw [upd_same] at q; cases q; exact l
    · rw [upd_ne y] at q; exact t a u q
  · rw [z]
    exact .lst (.inl (.inl upd_same)) (r.up s1)

def tV (K : PySem.W.Frag) (W : Vp) (E : L2.St → XK) (x : List Nat) (g : EF) : TE := fun σ H Q => ∃ F ρ, Same F H ∧ EnvOk K W x F H σ ρ ∧ Hd (E σ) W H (g ρ) (VPost K W F H Q)
def tN (K : PySem.W.Frag) (W : Vp) (E : L2.St → XK) (x : List Nat) (g : EF) : TE := fun σ H Q => ∃ F ρ, Same F H ∧ EnvOk K W x F H σ ρ ∧ Hd (E σ) W H (g ρ) (NPost K W F H Q)
def tA (K : PySem.W.Frag) (W : Vp) (E : L2.St → XK) (x : List Nat) (g : AF) : TA := fun σ H Q => ∃ F ρ, Same F H ∧ EnvOk K W x F H σ ρ ∧ Hd (E σ) W H (g ρ) (APost K W F H Q)
def tT (K : PySem.W.Frag) (W : Vp) (E : L2.St → XK) (x : List Nat) (g : TF) : TT := fun σ H Q => ∃ F ρ, Same F H ∧ EnvOk K W x F H σ ρ ∧ Hd (E σ) W H (g ρ) fun b => ∀ H', Same H H' → Q b H'

abbrev VE (X : Cx) (W : Vp) (E : L2.St → XK) (x : List Nat) (e : Expr) (g : EF) : Prop := PE X e (tV X.K W E x g)
abbrev VN (X : Cx) (W : Vp) (E : L2.St → XK) (x : List Nat) (e : Expr) (g : EF) : Prop := PE X e (tN X.K W E x g)
abbrev VA (X : Cx) (W : Vp) (E : L2.St → XK) (x : List Nat) (es : List Expr) (g : AF) : Prop := PA X es (tA X.K W E x g)
abbrev VT (X : Cx) (W : Vp) (E : L2.St → XK) (x : List Nat) (e : Expr) (g : TF) : Prop := PT X e (tT X.K W E x g)
abbrev VWh (X : Cx) (W : Vp) (E : L2.St → XK) (x : List Nat) (e : Expr) (g : TF) : Prop := PW X e (tT X.K W E x g)

theorem _root_.L2.PE.wk {X : Cx} {e : Expr} {t t' : TE} (h : PE X e t) (i : ∀ σ H Q, t' σ H Q → t σ H Q) : PE X e t' := ⟨fun pins s σ H Q I q => h.run pins s σ H Q I (i σ H Q q)⟩
theorem _root_.L2.PA.wk {X : Cx} {e : List Expr} {t t' : TA} (h : PA X e t) (i : ∀ σ H Q, t' σ H Q → t σ H Q) : PA X e t' := ⟨fun p pins s σ H Q I q => h.run p pins s σ H Q I (i σ H Q q)⟩
theorem _root_.L2.PT.wk {X : Cx} {e : Expr} {t t' : TT} (h : PT X e t) (i : ∀ σ H Q, t' σ H Q → t σ H Q) : PT X e t' := ⟨fun pins s σ H Q I q => h.run pins s σ H Q I (i σ H Q q)⟩
theorem _root_.L2.PW.wk {X : Cx} {e : Expr} {t t' : TT} (h : PW X e t) (i : ∀ σ H Q, t' σ H Q → t σ H Q) : PW X e t' := ⟨fun w pins s σ H Q I q => h.run w pins s σ H Q I (i σ H Q q)⟩
theorem _root_.L2.PS.wk {X : Cx} {e : Stmt} {t t' : TS} (h : PS X e t) (i : ∀ D σ H, t' D σ H → t D σ H) : PS X e t' := ⟨fun pins s σ H D I q => h.run pins s σ H D I (i D σ H q)⟩
theorem _root_.L2.PSs.wk {X : Cx} {e : List Stmt} {t t' : TS} (h : PSs X e t) (i : ∀ D σ H, t' D σ H → t D σ H) : PSs X e t' := ⟨fun pins s σ H D I q => h.run pins s σ H D I (i D σ H q)⟩
theorem _root_.L2.PG.wk {X : Cx} {e : Expr} {t t' : TG} (h : PG X e t) (i : ∀ v σ H Q, t' v σ H Q → t v σ H Q) : PG X e t' := ⟨fun pins s σ H v u Q I r q => h.run pins s σ H v u Q I r (i v σ H Q q)⟩
theorem _root_.L2.PI.wk {X : Cx} {tg e : Expr} {t t' : TI} (h : PI X tg e t) (i : ∀ σ H R, t' σ H R → t σ H R) : PI X tg e t' := ⟨fun pins s σ H R I q => h.run pins s σ H R I (i σ H R q)⟩

section
variable {X : Cx} {W : Vp} {E : L2.St → XK} {x : List Nat} {e a b c : Expr} {es rest : List Expr} {g ga gb gc : EF} {gA : AF} {t u : TF} {pos : Pos}

theorem ve_n (h : VN X W E x e g) : VE X W E x e g := h.wk fun σ H Q ⟨F, ρ, s, o, m⟩ => ⟨F, ρ, s, o, m.imp fun _ => VPost.n⟩
theorem ve_v {i : Nat} (h : PE X e (tVar i)) (hx : i ∉ x := by decide) : VE X W E x e (eV i) := h.wk fun σ H Q ⟨F, ρ, s, o, m⟩ => by
  unfold eV look at m
  cases q : ρ[i]? with
  | none => rw [q] at m; exact m.elim
  | some z =>
    cases z with
    | none => rw [q] at m; exact m.elim
    | some d =>
      rw [q] at m
      obtain ⟨v, h1, h2, h3⟩ := o.2 i d q
      exact ⟨v, h1, m v H F (Same.refl H) (Ext.refl F H) s (h3 hx)⟩
theorem ve_c {v : V} {d : D} (h : PE X e (L2.tC v)) (r : ∀ K C H, Rp K C H v d) : VE X W E x e (eC d) := h.wk fun σ H Q ⟨F, ρ, s, o, m⟩ => m v H F (Same.refl H) (Ext.refl F H) s (r _ _ _)
theorem ve_int {i j pos} : VE X W E x (.Constant (.int i) j pos) (eC (.int i)) := ve_c pe_int fun _ _ _ => .int i
theorem ve_bl {i j pos} : VE X W E x (.Constant (.bool i) j pos) (eC (.bool i)) := ve_c pe_bl fun _ _ _ => .bl i
theorem ve_non {j pos} : VE X W E x (.Constant .none j pos) (eC .none) := ve_c pe_non fun _ _ _ => .non
theorem ve_str {i j pos} : VE X W E x (.Constant (.str i) j pos) (eC (.str i)) := ve_c pe_str fun _ _ _ => .str i

/-- a two-place operation on data -/
def Op2 (K : PySem.W.Frag) (r : R2) (f : D → D → R D) : Prop := ∀ (W : Vp) (E : XK) (F H : Hp) (x y : V) (d1 d2 : D) (Q : VK), Same F H → Rp K W.rc F x d1 → Rp K W.rc F y d2 → Hd E W H (f d1 d2) (VPost K W F H Q) → r x y H Q
def Op1 (K : PySem.W.Frag) (r : V → Hp → VK → Prop) (f : D → R D) : Prop := ∀ (W : Vp) (E : XK) (F H : Hp) (x : V) (d : D) (Q : VK), Same F H → Rp K W.rc F x d → Hd E W H (f d) (VPost K W F H Q) → r x H Q
def OpN (K : PySem.W.Frag) (r : R2) (f : D → D → R D) : Prop := ∀ (W : Vp) (E : XK) (F H : Hp) (x y : V) (d1 d2 : D) (Q : VK), Same F H → Rp K W.rc F x d1 → Rp K W.rc F y d2 → Hd E W H (f d1 d2) (NPost K W F H Q) → r x y H Q
def CaR (K : PySem.W.Frag) (r : List V → Hp → VK → Prop) (f : List D → R D) : Prop := ∀ (W : Vp) (E : XK) (F H : Hp) (vs : List V) (ds : List D) (Q : VK), Same F H → RpA K W.rc F vs ds → Hd E W H (f ds) (VPost K W F H Q) → r vs H Q
def CaN (K : PySem.W.Frag) (r : List V → Hp → VK → Prop) (f : List D → R D) : Prop := ∀ (W : Vp) (E : XK) (F H : Hp) (vs : List V) (ds : List D) (Q : VK), Same F H → RpA K W.rc F vs ds → Hd E W H (f ds) (NPost K W F H Q) → r vs H Q

theorem two {ta tb : TE} {r : R2} {f : D → D → R D} (o2 : Op2 X.K r f) (σ : L2.St) (H : Hp) (Q : VK) (h : tV X.K W E x (e2 f ga gb) σ H Q) : L2.tOp r (tV X.K W E x ga) (tV X.K W E x gb) σ H Q := by
  obtain ⟨F, ρ, s, o, m⟩ := h
  refine ⟨F, ρ, s, o, (hd_bind m).imp fun d1 m1 v H1 F1 s1 x1 f1 r1 => ⟨F1, ρ, f1, o.mono x1.up s1, ((hd_bind m1).heap s1).imp fun d2 m2 w H2 F2 s2 x2 f2 r2 => ?_⟩⟩
  exact o2 W (E σ) F2 H2 v w d1 d2 Q f2 (r1.up x2.up) r2 ((m2.heap (s1.trans s2)).imp fun d q => q.step (s1.trans s2) (x1.trans s1 x2))
theorem twoN {ta tb : TE} {r : R2} {f : D → D → R D} (o2 : OpN X.K r f) (σ : L2.St) (H : Hp) (Q : VK) (h : tN X.K W E x (e2 f ga gb) σ H Q) : L2.tOp r (tV X.K W E x ga) (tV X.K W E x gb) σ H Q := by
  obtain ⟨F, ρ, s, o, m⟩ := h
  refine ⟨F, ρ, s, o, (hd_bind m).imp fun d1 m1 v H1 F1 s1 x1 f1 r1 => ⟨F1, ρ, f1, o.mono x1.up s1, ((hd_bind m1).heap s1).imp fun d2 m2 w H2 F2 s2 x2 f2 r2 => ?_⟩⟩
  exact o2 W (E σ) F2 H2 v w d1 d2 Q f2 (r1.up x2.up) r2 ((m2.heap (s1.trans s2)).imp fun d q => q.step (s1.trans s2) (x1.trans s1 x2))
theorem ve_op {op : Operator} {r : R2} {f : D → D → R D} (ho : OpR X (binaryOp op) r) (o2 : Op2 X.K r f) (ha : VE X W E x a ga) (hb : VE X W E x b gb) : VE X W E x (.BinOp a op b pos) (e2 f ga gb) :=
  (pe_op ho ha hb).wk (two (ta := tV X.K W E x ga) (tb := tV X.K W E x gb) o2)
theorem vn_op {op : Operator} {r : R2} {f : D → D → R D} (ho : OpR X (binaryOp op) r) (o2 : OpN X.K r f) (ha : VE X W E x a ga) (hb : VE X W E x b gb) : VN X W E x (.BinOp a op b pos) (e2 f ga gb) :=
  (pe_op ho ha hb).wk (twoN (ta := tV X.K W E x ga) (tb := tV X.K W E x gb) o2)
theorem ve_cmp {op : CmpOp} {r : R2} {f : D → D → R D} (ho : OpR X (compareOp op) r) (o2 : Op2 X.K r f) (ha : VE X W E x a ga) (hb : VE X W E x b gb) (hm : behindInMarks op b = false) : VE X W E x (.Compare a [op] [b] pos) (e2 f ga gb) :=
  (pe_cmpR ho ha hb hm).wk (two (ta := tV X.K W E x ga) (tb := tV X.K W E x gb) o2)
theorem ve_ix {r : R2} {f : D → D → R D} (ho : IxR X r) (o2 : Op2 X.K r f) (ha : VE X W E x a ga) (hb : VE X W E x b gb) (hs : PlainIx b) : VE X W E x (.Subscript a b pos) (e2 f ga gb) :=
  (pe_ix ho ha hb hs).wk (two (ta := tV X.K W E x ga) (tb := tV X.K W E x gb) o2)
theorem asB_some {d : D} {k : Bool} (h : asB d = .ok k) : d = .bool k := by
  cases d <;> first | (cases h; rfl) | cases h
/-- a test by a value that is a bool -/
theorem tB_of {te : TE} {K : PySem.W.Frag} {hE : XK} (σ : L2.St) (H : Hp) (Q : Bool → Hp → Prop) (h : tT K W E x (tB g) σ H Q) : tV K W E x g σ H fun v H1 => ∃ k, v = .bl k ∧ Q k H1 := by
  obtain ⟨F, ρ, s, o, m⟩ := h
  refine ⟨F, ρ, s, o, (hd_bind m).imp fun d m1 v H1 F1 s1 x1 f1 r1 => ?_⟩
  cases d with
  | bool k => cases r1; exact ⟨k, rfl, m1 H1 s1⟩
  | _ => exact m1.elim
theorem vt_cmp {op : CmpOp} {r : R2} {f : D → D → R D} (ho : OpR X (compareOp op) r) (o2 : Op2 X.K r f) (ha : VE X W E x a ga) (hb : VE X W E x b gb) (hm : behindInMarks op b = false) : VT X W E x (.Compare a [op] [b] pos) (tB (e2 f ga gb)) :=
  (pt_cmpR ho ha hb hm).wk fun σ H Q h => two (ta := tV X.K W E x ga) (tb := tV X.K W E x gb) o2 σ H _ (tB_of (te := tV X.K W E x ga) (hE := fun _ _ _ => False) σ H Q h)
theorem vt_val (ha : VE X W E x a ga) (he : ∀ whole, isTrue a X.env whole = (do let v ← whole; standAt a.pos; holding [v] (truthy v)) := by intro _; rfl) : VT X W E x a (tB ga) :=
  (pt_val ha he).wk fun σ H Q h => tB_of (te := tV X.K W E x ga) (hE := fun _ _ _ => False) σ H Q h
theorem vt_truth (ha : VE X W E x a ga) (he : ∀ whole, isTrue a X.env whole = (do let v ← whole; standAt a.pos; holding [v] (truthy v)) := by intro _; rfl) : VT X W E x a (tTr ga) :=
  (pt_truth ha he).wk fun σ H Q ⟨F, ρ, s, o, m⟩ => ⟨F, ρ, s, o, (hd_bind m).imp fun d m1 v H1 F1 s1 x1 f1 r1 => by
    cases r1 with
    | non => exact ⟨_, rfl, m1 H1 s1⟩
    | bl b => exact ⟨_, rfl, m1 H1 s1⟩
    | int i => exact ⟨_, rfl, m1 H1 s1⟩
    | str y => exact m1.elim
    | obj h1 h2 => exact m1.elim
    | exn h1 => exact m1.elim
    | lst h1 h2 =>
      rename_i aa xs ds
      refine ⟨!ds.isEmpty, .inl ⟨xs, sqr_l (sqr_mono f1 h1), ?_⟩, m1 H1 s1⟩
      have := h2.len
      cases xs <;> cases ds <;> first | rfl | (simp at this)
    | tup h1 h2 =>
      rename_i aa xs ds
      refine ⟨!ds.isEmpty, .inr (.inl ⟨xs, sqt_mono f1 h1, ?_⟩), m1 H1 s1⟩
      have := h2.len
      cases xs <;> cases ds <;> first | rfl | (simp at this)⟩
theorem vt_not (ha : VT X W E x a t) : VT X W E x (.UnaryOp .Not a pos) (tNo t) :=
  (pt_not ha).wk fun σ H Q ⟨F, ρ, s, o, m⟩ => ⟨F, ρ, s, o, (hd_bind m).imp fun d m1 H1 s1 => m1 H1 s1⟩
theorem vw_and1 (ha : VT X W E x a t) : VWh X W E x (.BoolOp .And [a] pos) t := pw_and1 ha
theorem vw_or1 (ha : VT X W E x a t) : VWh X W E x (.BoolOp .Or [a] pos) t := pw_or1 ha
theorem vw_and (ha : VT X W E x a t) (hb : VWh X W E x (.BoolOp .And (b :: rest) pos) u) : VWh X W E x (.BoolOp .And (a :: b :: rest) pos) (tAn t u) :=
  (pw_and ha hb).wk fun σ H Q ⟨F, ρ, s, o, m⟩ => ⟨F, ρ, s, o, (hd_bind m).imp fun d m1 H1 s1 => by
    cases d with
    | true =>
      show tT X.K W E x u σ H1 Q
      exact ⟨F, ρ, s.trans s1, o.mono (Same.refl F) s1, (m1.heap s1).imp fun k q H2 s2 => q H2 (s1.trans s2)⟩
    | false => exact m1 H1 s1⟩
theorem vw_or (ha : VT X W E x a t) (hb : VWh X W E x (.BoolOp .Or (b :: rest) pos) u) : VWh X W E x (.BoolOp .Or (a :: b :: rest) pos) (tOr t u) :=
  (pw_or ha hb).wk fun σ H Q ⟨F, ρ, s, o, m⟩ => ⟨F, ρ, s, o, (hd_bind m).imp fun d m1 H1 s1 => by
    cases d with
    | false =>
      show tT X.K W E x u σ H1 Q
      exact ⟨F, ρ, s.trans s1, o.mono (Same.refl F) s1, (m1.heap s1).imp fun k q H2 s2 => q H2 (s1.trans s2)⟩
    | true => exact m1 H1 s1⟩
theorem vt_w (h : VWh X W E x e t) : VT X W E x e t := PW.pt h
theorem ve_one {op} (h : VE X W E x a ga) : VE X W E x (.BoolOp op [a] pos) ga := pe_one h
theorem ve_and (ha : VE X W E x a ga) (hb : VE X W E x (.BoolOp .And (b :: rest) pos) gb) : VE X W E x (.BoolOp .And (a :: b :: rest) pos) (eAn ga gb) :=
  (pe_and ha hb).wk fun σ H Q ⟨F, ρ, s, o, m⟩ => ⟨F, ρ, s, o, (hd_bind m).imp fun d m1 v H1 F1 s1 x1 f1 r1 => by
    cases d with
    | bool k =>
      cases r1
      refine ⟨k, rfl, ?_⟩
      cases k with
      | true =>
        show tV X.K W E x gb σ H1 Q
        exact ⟨F1, ρ, f1, o.mono x1.up s1, (Hd.heap (r := gb ρ) m1 s1).imp fun d q => q.step s1 x1⟩
      | false =>
        show Q (.bl false) H1
        exact m1 _ H1 F1 s1 x1 f1 (.bl false)
    | _ => exact m1.elim⟩
theorem ve_or (ha : VE X W E x a ga) (hb : VE X W E x (.BoolOp .Or (b :: rest) pos) gb) : VE X W E x (.BoolOp .Or (a :: b :: rest) pos) (eOr ga gb) :=
  (pe_or ha hb).wk fun σ H Q ⟨F, ρ, s, o, m⟩ => ⟨F, ρ, s, o, (hd_bind m).imp fun d m1 v H1 F1 s1 x1 f1 r1 => by
    cases d with
    | bool k =>
      cases r1
      refine ⟨k, rfl, ?_⟩
      cases k with
      | false =>
        show tV X.K W E x gb σ H1 Q
        exact ⟨F1, ρ, f1, o.mono x1.up s1, (Hd.heap (r := gb ρ) m1 s1).imp fun d q => q.step s1 x1⟩
      | true =>
        show Q (.bl true) H1
        exact m1 _ H1 F1 s1 x1 f1 (.bl true)
    | _ => exact m1.elim⟩
theorem ve_not (ha : VE X W E x a ga) : VE X W E x (.UnaryOp .Not a pos) (eNo ga) :=
  (pe_not ha).wk fun σ H Q ⟨F, ρ, s, o, m⟩ => ⟨F, ρ, s, o, (hd_bind m).imp fun d m1 v H1 F1 s1 x1 f1 r1 => by
    cases d with
    | bool k =>
      cases r1
      exact ⟨k, rfl, m1 _ H1 F1 s1 x1 f1 (.bl _)⟩
    | _ => exact m1.elim⟩
theorem ve_if (hc : VT X W E x c t) (ha : VE X W E x a ga) (hb : VE X W E x b gb) : VE X W E x (.IfExp c a b pos) (eIf t ga gb) :=
  (pe_ifExp hc ha hb).wk fun σ H Q ⟨F, ρ, s, o, m⟩ => ⟨F, ρ, s, o, (hd_bind m).imp fun d m1 H1 s1 => by
    have o1 := o.mono (Same.refl F) s1
    have z : Ext F H F := Ext.refl F H
    cases d with
    | true =>
      show tV X.K W E x ga σ H1 Q
      exact ⟨F, ρ, s.trans s1, o1, (Hd.heap (r := ga ρ) m1 s1).imp fun d q => q.step s1 z⟩
    | false =>
      show tV X.K W E x gb σ H1 Q
      exact ⟨F, ρ, s.trans s1, o1, (Hd.heap (r := gb ρ) m1 s1).imp fun d q => q.step s1 z⟩⟩
theorem ve_un {op : UnaryOp} {r : V → Hp → VK → Prop} {f : D → R D} (ho : UnR X (unaryOp op) r) (o1 : Op1 X.K r f) (ha : VE X W E x a ga) : VE X W E x (.UnaryOp op a pos) (e1 f ga) :=
  (pe_un ho ha).wk fun σ H Q ⟨F, ρ, s, o, m⟩ => ⟨F, ρ, s, o, (hd_bind m).imp fun d m1 v H1 F1 s1 x1 f1 r1 => o1 W (E σ) F1 H1 v d Q f1 r1 ((m1.heap s1).imp fun d q => q.step s1 x1)⟩

theorem va_nil : VA X W E x [] aN := pa_nil.wk fun σ H Q ⟨F, ρ, s, o, m⟩ => m [] H F (Same.refl H) (Ext.refl F H) s .nil
theorem va_cons (ha : VE X W E x e g) (hr : VA X W E x es gA) (hs : starEach (e :: es) X.env = (false, eval e X.env) :: starEach es X.env := by rfl) : VA X W E x (e :: es) (aC g gA) :=
  (pa_cons ha hr hs).wk fun σ H Q ⟨F, ρ, s, o, m⟩ => ⟨F, ρ, s, o, (hd_bind m).imp fun d m1 v H1 F1 s1 x1 f1 r1 => ⟨F1, ρ, f1, o.mono x1.up s1, ((hd_bind m1).heap s1).imp fun ds m2 vs H2 F2 s2 x2 f2 r2 =>
    m2 (v :: vs) H2 F2 (s1.trans s2) (x1.trans s1 x2) f2 (.cons (r1.up x2.up) r2)⟩⟩
theorem big_le : big ≤ sizeLine := by decide
theorem ve_tup {k} (h : VA X W E x es gA) : VE X W E x (.Tuple es k pos) (eTup gA) :=
  (pe_tup h).wk fun σ H Q ⟨F, ρ, s, o, m⟩ => ⟨F, ρ, s, o, (hd_bind m).imp fun ds m1 vs H1 F1 s1 x1 f1 r1 => by
    by_cases hz : ds.length ≤ big
    · rw [if_pos hz] at m1
      have l := r1.len
      refine ⟨by rw [l]; exact Nat.le_trans hz big_le, fun p hp => m1 (.ref p) _ (upd F1 p (.tup vs)) (s1.trans (same_upd hp)) (x1.trans s1 (Ext.one hp f1)) (same_upd2 f1) (.tup (SqT.of upd_same) (r1.up (Ext.one hp f1).up))⟩
    · rw [if_neg hz] at m1; exact m1.elim⟩
theorem vn_lst (h : VA X W E x es gA) : VN X W E x (.List es pos) (eLst gA) :=
  (pe_lst h).wk fun σ H Q ⟨F, ρ, s, o, m⟩ => ⟨F, ρ, s, o, (hd_bind m).imp fun ds m1 vs H1 F1 s1 x1 f1 r1 => by
    by_cases hz : ds.length ≤ big
    · rw [if_pos hz] at m1
      have l := r1.len
      refine ⟨by rw [l]; exact Nat.le_trans hz big_le, fun p hp => m1 p vs ds _ F1 rfl (s1.trans (same_upd hp)) x1 (f1.trans (same_upd hp)) (none_back s1 hp) (none_back f1 hp) upd_same r1⟩
    · rw [if_neg hz] at m1; exact m1.elim⟩
theorem sc_rp {K : PySem.W.Frag} {C : Rc} {H H' : Hp} {v : V} {d : D} (h : Rp K C H v d) (z : scD d = true) : Rp K C H' v d := by
  cases h with
  | non => exact .non
  | bl b => exact .bl b
  | int i => exact .int i
  | str y => exact .str y
  | _ => cases z
theorem ve_sc (h : VE X W E [] e g) : VE X W E x e (scG g) := h.wk fun σ H Q ⟨F, ρ, s, o, m⟩ => by
  refine ⟨H, ρ, Same.refl H, ⟨o.1, fun i d q => ?_⟩, (hd_bind m).imp fun d m1 v H1 F1 s1 x1 f1 r1 => ?_⟩
  · obtain ⟨v, a, b, c⟩ := o.2 i d q
    exact ⟨v, a, b, fun _ => b⟩
  · by_cases z : scD d = true
    · rw [if_pos z] at m1
      exact m1 v H1 F s1 (Ext.refl F H) (s.trans s1) (sc_rp r1 z)
    · rw [if_neg z] at m1; exact m1.elim
/-- all slots may be read in a test -/
theorem vt_all (h : VT X W E [] e t) : VT X W E x e t := h.wk fun σ H Q ⟨F, ρ, s, o, m⟩ => ⟨H, ρ, Same.refl H, ⟨o.1, fun i d q => by
  obtain ⟨v, a, b, c⟩ := o.2 i d q
  exact ⟨v, a, b, fun _ => b⟩⟩, m⟩
theorem tCB_of {r : List V → Hp → VK → Prop} {f : List D → R D} (o : CaR X.K r f) (σ : L2.St) (H : Hp) (Q : VK) (h : tV X.K W E x (eF f gA) σ H Q) : tCB r (tA X.K W E x gA) σ H Q := by
  obtain ⟨F, ρ, s, o', m⟩ := h
  exact ⟨F, ρ, s, o', (hd_bind m).imp fun ds m1 vs H1 F1 s1 x1 f1 r1 => o W (E σ) F1 H1 vs ds Q f1 r1 ((m1.heap s1).imp fun d q => q.step s1 x1)⟩
theorem tCB_ofN {r : List V → Hp → VK → Prop} {f : List D → R D} (o : CaN X.K r f) (σ : L2.St) (H : Hp) (Q : VK) (h : tN X.K W E x (eF f gA) σ H Q) : tCB r (tA X.K W E x gA) σ H Q := by
  obtain ⟨F, ρ, s, o', m⟩ := h
  exact ⟨F, ρ, s, o', (hd_bind m).imp fun ds m1 vs H1 F1 s1 x1 f1 r1 => o W (E σ) F1 H1 vs ds Q f1 r1 ((m1.heap s1).imp fun d q => q.step s1 x1)⟩
theorem ve_wkB {r : List V → Hp → VK → Prop} {f : List D → R D} (o : CaR X.K r f) (h : PE X e (tCB r (tA X.K W E x gA))) : VE X W E x e (eF f gA) := h.wk (tCB_of o)
theorem vn_wkB {r : List V → Hp → VK → Prop} {f : List D → R D} (o : CaN X.K r f) (h : PE X e (tCB r (tA X.K W E x gA))) : VN X W E x e (eF f gA) := h.wk (tCB_ofN o)
end
end Vx

set_option Elab.async false
set_option linter.all false
set_option maxRecDepth 100000
set_option maxHeartbeats 4000000
/-! VW2: the operators and built-ins on data. -/
namespace Vx
open PySem L2
section
variable {K : PySem.W.Frag}
/-! ### operators -/
theorem o2_I0 {g : Int → Int → V} {f : Int → Int → D} (hg : ∀ K C H i j, Rp K C H (g i j) (f i j)) : Op2 K (rI0 g) (intD2 f) := fun W E F H x y d1 d2 Q s r1 r2 m => by
  cases r1 with
  | int i =>
    cases r2 with
    | int j => exact ⟨i, j, rfl, rfl, m _ H F (Same.refl H) (Ext.refl F H) s (hg _ _ _ _ _)⟩
    | _ => exact False.elim m
  | _ => first | exact False.elim m | (cases r2 <;> exact False.elim m)
theorem o2_I {c : Int → Int → Prop} {g : Int → Int → V} {f : Int → Int → D} {h : D → D → R D} (hg : ∀ K C H i j, Rp K C H (g i j) (f i j)) (h1 : ∀ i j, ¬ c i j → h (.int i) (.int j) = .no) (h2 : ∀ i j, c i j → h (.int i) (.int j) = .ok (f i j))
    (h3 : ∀ a b, (∀ i j, a = .int i → b = .int j → False) → h a b = .no) : Op2 K (rI c g) h := fun W E F H x y d1 d2 Q s r1 r2 m => by
  have no : (∀ i j, d1 = .int i → d2 = .int j → False) → False := fun z => by rw [h3 d1 d2 z] at m; exact m
  cases r1 with
  | int i =>
    cases r2 with
    | int j =>
      by_cases hc : c i j
      · rw [h2 i j hc] at m
        exact ⟨i, j, rfl, rfl, hc, m _ H F (Same.refl H) (Ext.refl F H) s (hg _ _ _ _ _)⟩
      · rw [h1 i j hc] at m; exact False.elim m
    | _ => exact (no fun _ _ a b => by cases b).elim
  | _ => exact (no fun _ _ a b => by cases a).elim
theorem o2_add : Op2 K (rI0 fun i j => .int (i + j)) addD := o2_I0 fun _ _ _ i j => .int _
theorem o2_sub : Op2 K (rI0 fun i j => .int (i - j)) subD := o2_I0 fun _ _ _ i j => .int _
theorem no_of {h : D → D → R D} (hi : ∀ a b, (∀ i j, a = PyData.int i → b = PyData.int j → False) → h a b = .no) : ∀ a b, (∀ i j, a = PyData.int i → b = PyData.int j → False) → h a b = .no := hi
theorem o2_mul : Op2 K (rI CMul fun i j => .int (i * j)) mulD := o2_I (f := fun i j => .int (i * j)) (fun _ _ _ i j => .int _) (fun i j h => if_neg h) (fun i j h => if_pos h) fun a b z => by
  cases a with
  | int i =>
    cases b with
    | int j => exact (z i j rfl rfl).elim
    | _ => rfl
  | _ => rfl
theorem o2_div : Op2 K (rI CDivN fun i j => .int (i.fdiv j)) divD := o2_I (f := fun i j => .int (i.fdiv j)) (fun _ _ _ i j => .int _) (fun i j h => if_neg h) (fun i j h => if_pos h) fun a b z => by
  cases a with
  | int i =>
    cases b with
    | int j => exact (z i j rfl rfl).elim
    | _ => rfl
  | _ => rfl
theorem o2_mod : Op2 K (rI (fun _ j => j ≠ 0) fun i j => .int (i.fmod j)) modD := o2_I (f := fun i j => .int (i.fmod j)) (fun _ _ _ i j => .int _) (fun i j h => if_neg h) (fun i j h => if_pos h) fun a b z => by
  cases a with
  | int i =>
    cases b with
    | int j => exact (z i j rfl rfl).elim
    | _ => rfl
  | _ => rfl
theorem o2_pow : Op2 K (rI CPow fun i j => .int (i ^ j.toNat)) powD := o2_I (f := fun i j => .int (i ^ j.toNat)) (fun _ _ _ i j => .int _) (fun i j h => if_neg h) (fun i j h => if_pos h) fun a b z => by
  cases a with
  | int i =>
    cases b with
    | int j => exact (z i j rfl rfl).elim
    | _ => rfl
  | _ => rfl
theorem o1_neg : Op1 K (rU fun i => .int (-i)) negD := fun W E F H x d Q s r1 m => by
  cases r1 with
  | int i => exact ⟨i, rfl, m _ H F (Same.refl H) (Ext.refl F H) s (.int _)⟩
  | _ => exact False.elim m
theorem o2_lt : Op2 K (rI0 fun i j => .bl (decide (i < j))) ltD := o2_I0 fun _ _ _ i j => .bl _
theorem o2_le : Op2 K (rI0 fun i j => .bl (decide (i ≤ j))) leD := o2_I0 fun _ _ _ i j => .bl _
theorem o2_gt : Op2 K (rI0 fun i j => .bl (decide (j < i))) gtD := o2_I0 fun _ _ _ i j => .bl _
theorem o2_ge : Op2 K (rI0 fun i j => .bl (decide (j ≤ i))) geD := o2_I0 fun _ _ _ i j => .bl _
theorem okD_l {d : D} (h : okD d = true) : d.canLay0 = true := by
  unfold okD at h
  simp only [Bool.and_eq_true] at h
  exact h.1
/-- one of two readings -/
theorem op_or {X : Cx} {f : Value → Value → Sem Value} {r r' : R2} (h : OpR X f r) (h' : OpR X f r') : OpR X f (fun x y H Q => r x y H Q ∨ r' x y H Q) := fun pins s σ H x y v u Q I rx ry z => by
  rcases z with z | z
  · exact h pins s σ H x y v u Q I rx ry z
  · exact h' pins s σ H x y v u Q I rx ry z
theorem op_eqA {X : Cx} (hu : X.A.units + 64 < cLine) : OpR X (compareOp .Eq) (fun x y H Q => rEqD X.K x y H Q ∨ rEq x y H Q) := op_or (op_eqD hu) op_eq
theorem op_neA {X : Cx} (hu : X.A.units + 64 < cLine) : OpR X (compareOp .NotEq) (fun x y H Q => rNeD X.K x y H Q ∨ rNe x y H Q) := op_or (op_neD hu) op_ne
theorem o2_eq : Op2 K (fun x y H Q => rEqD K x y H Q ∨ rEq x y H Q) eqD := fun W E F H x y d1 d2 Q s r1 r2 m => by
  by_cases h : ∃ a b, d1 = .str a ∧ d2 = .str b
  · obtain ⟨a, b, rfl, rfl⟩ := h
    cases r1; cases r2
    refine .inr ⟨rfl, ?_⟩
    have e : decide (V.str a = V.str b) = decide (a = b) := by
      by_cases z : a = b
      · subst z; simp
      · rw [decide_eq_false z, decide_eq_false fun q => z (V.str.inj q)]
    rw [e]
    exact m _ H F (Same.refl H) (Ext.refl F H) s (.bl _)
  · have e : eqD d1 d2 = if okD d1 && okD d2 then .ok (.bool (PyData.eqv d1 d2)) else .no := by
      unfold eqD
      split
      · exact (h ⟨_, _, rfl, rfl⟩).elim
      · rfl
    rw [e] at m
    by_cases z : (okD d1 && okD d2) = true
    · rw [if_pos z] at m
      simp only [Bool.and_eq_true] at z
      exact .inl ⟨d1, d2, (r1.up s).dp _ _ (okD_l z.1), (r2.up s).dp _ _ (okD_l z.2), z.1, z.2, m _ H F (Same.refl H) (Ext.refl F H) s (.bl _)⟩
    · rw [if_neg z] at m; exact False.elim m
theorem o2_ne : Op2 K (fun x y H Q => rNeD K x y H Q ∨ rNe x y H Q) neD := fun W E F H x y d1 d2 Q s r1 r2 m => by
  by_cases h : ∃ a b, d1 = .str a ∧ d2 = .str b
  · obtain ⟨a, b, rfl, rfl⟩ := h
    cases r1; cases r2
    refine .inr ⟨rfl, ?_⟩
    have e : decide (V.str a = V.str b) = decide (a = b) := by
      by_cases z : a = b
      · subst z; simp
      · rw [decide_eq_false z, decide_eq_false fun q => z (V.str.inj q)]
    rw [e]
    exact m _ H F (Same.refl H) (Ext.refl F H) s (.bl _)
  · have e : neD d1 d2 = if okD d1 && okD d2 then .ok (.bool (!PyData.eqv d1 d2)) else .no := by
      unfold neD
      split
      · exact (h ⟨_, _, rfl, rfl⟩).elim
      · rfl
    rw [e] at m
    by_cases z : (okD d1 && okD d2) = true
    · rw [if_pos z] at m
      simp only [Bool.and_eq_true] at z
      exact .inl ⟨d1, d2, (r1.up s).dp _ _ (okD_l z.1), (r2.up s).dp _ _ (okD_l z.2), z.1, z.2, m _ H F (Same.refl H) (Ext.refl F H) s (.bl _)⟩
    · rw [if_neg z] at m; exact False.elim m
theorem o2_isN : Op2 K (fun x y H Q => y = .non ∧ Q (.bl (decide (x = .non))) H) isNoneD := fun W E F H x y d1 d2 Q s r1 r2 m => by
  cases r2 with
  | non =>
    refine ⟨rfl, ?_⟩
    cases r1 <;> exact m _ H F (Same.refl H) (Ext.refl F H) s (.bl _)
  | _ => cases r1 <;> exact False.elim m
theorem o2_notN : Op2 K (fun x y H Q => y = .non ∧ Q (.bl (!decide (x = .non))) H) isNotNoneD := fun W E F H x y d1 d2 Q s r1 r2 m => by
  cases r2 with
  | non =>
    refine ⟨rfl, ?_⟩
    cases r1 <;> exact m _ H F (Same.refl H) (Ext.refl F H) s (.bl _)
  | _ => cases r1 <;> exact False.elim m
theorem o2_isB : Op2 K (fun x y H Q => ∃ a b, x = .bl a ∧ y = .bl b ∧ Q (.bl (decide (a = b))) H) isBoolD := fun W E F H x y d1 d2 Q s r1 r2 m => by
  cases r1 with
  | bl a =>
    cases r2 with
    | bl b =>
      refine ⟨a, b, rfl, rfl, m _ H F (Same.refl H) (Ext.refl F H) s ?_⟩
      cases a <;> cases b <;> exact .bl _
    | _ => exact False.elim m
  | _ => exact False.elim m
theorem flat_rp {C : Rc} {H : Hp} {v : V} {d : D} (r : Rp K C H v d) (h : flatD d = true) : flatV v = true := by
  cases r <;> first | rfl | cases h
theorem flat_rpa {C : Rc} {H : Hp} : ∀ {vs : List V} {ds : List D}, RpA K C H vs ds → ds.all flatD = true → vs.all flatV = true
  | _, _, .nil, _ => rfl
  | _, _, .cons r t, h => by
    rw [List.all_cons, Bool.and_eq_true] at h ⊢
    exact ⟨flat_rp r h.1, flat_rpa t h.2⟩
theorem eqF_rp {C : Rc} {H H' : Hp} {x y : V} {d e : D} (r : Rp K C H x d) (q : Rp K C H' y e) (h : flatD d = true) (h' : flatD e = true) : eqV x y = eqF d e := by
  cases r <;> first | (cases h; done) | (cases q <;> first | (cases h'; done) | rfl | skip)
theorem inV_rp {C : Rc} {H H' : Hp} {x : V} {d : D} (r : Rp K C H' x d) (h : flatD d = true) : ∀ {vs : List V} {ds : List D}, RpA K C H vs ds → ds.all flatD = true → inV x vs = ds.any fun y => eqF y d
  | _, _, .nil, _ => rfl
  | _, _, .cons q t, z => by
    rw [List.all_cons, Bool.and_eq_true] at z
    unfold inV
    rw [List.any_cons, List.any_cons, eqF_rp q r z.1 h]
    have := inV_rp r h t z.2
    unfold inV at this
    rw [this]
theorem o2_in : Op2 K (rIn K false) inD := fun W E F H x y d1 d2 Q s r1 r2 m => by
  cases r2 with
  | lst h1 h2 =>
    rename_i a xs ds
    unfold inD at m
    by_cases z : (flatD d1 && ds.all flatD) = true
    · simp only [z, if_true] at m
      rw [Bool.and_eq_true] at z
      refine ⟨a, xs, rfl, .inl (sqr_l (sqr_mono s h1)), flat_rp r1 z.1, flat_rpa h2 z.2, ?_⟩
      show Q (.bl (inV x xs)) H
      rw [inV_rp r1 z.1 h2 z.2]
      exact m _ H F (Same.refl H) (Ext.refl F H) s (.bl _)
    · simp only [z] at m; exact False.elim m
  | tup h1 h2 =>
    rename_i a xs ds
    unfold inD at m
    by_cases z : (flatD d1 && ds.all flatD) = true
    · simp only [z, if_true] at m
      rw [Bool.and_eq_true] at z
      refine ⟨a, xs, rfl, .inr (sqt_mono s h1), flat_rp r1 z.1, flat_rpa h2 z.2, ?_⟩
      show Q (.bl (inV x xs)) H
      rw [inV_rp r1 z.1 h2 z.2]
      exact m _ H F (Same.refl H) (Ext.refl F H) s (.bl _)
    · simp only [z] at m; exact False.elim m
  | _ => exact False.elim m
theorem o2_notIn : Op2 K (rIn K true) notInD := fun W E F H x y d1 d2 Q s r1 r2 m => by
  cases r2 with
  | lst h1 h2 =>
    rename_i a xs ds
    unfold notInD at m
    by_cases z : (flatD d1 && ds.all flatD) = true
    · simp only [z, if_true] at m
      rw [Bool.and_eq_true] at z
      refine ⟨a, xs, rfl, .inl (sqr_l (sqr_mono s h1)), flat_rp r1 z.1, flat_rpa h2 z.2, ?_⟩
      show Q (.bl (!inV x xs)) H
      rw [inV_rp r1 z.1 h2 z.2]
      exact m _ H F (Same.refl H) (Ext.refl F H) s (.bl _)
    · simp only [z] at m; exact False.elim m
  | tup h1 h2 =>
    rename_i a xs ds
    unfold notInD at m
    by_cases z : (flatD d1 && ds.all flatD) = true
    · simp only [z, if_true] at m
      rw [Bool.and_eq_true] at z
      refine ⟨a, xs, rfl, .inr (sqt_mono s h1), flat_rp r1 z.1, flat_rpa h2 z.2, ?_⟩
      show Q (.bl (!inV x xs)) H
      rw [inV_rp r1 z.1 h2 z.2]
      exact m _ H F (Same.refl H) (Ext.refl F H) s (.bl _)
    · simp only [z] at m; exact False.elim m
  | _ => exact False.elim m
theorem itemAt_rp {C : Rc} {H : Hp} {W : Vp} {E : XK} {G : Hp} {k : D → Prop} {xs : List V} {ds : List D} {i : Int} (r : RpA K C H xs ds) (m : Hd E W G (itemAt ds i) k) : ∃ v d, atI xs i = some v ∧ Rp K C H v d ∧ k d := by
  unfold itemAt at m
  cases q : ixAt ds.length i with
  | none => rw [q] at m; exact False.elim m
  | some j =>
    rw [q] at m
    cases z : ds[j]? with
    | none => simp only [z] at m; exact False.elim m
    | some d =>
      simp only [z] at m
      obtain ⟨v, h1, h2⟩ := r.get z
      refine ⟨v, d, ?_, h2, m⟩
      have q' : ixN xs.length i = some j := by rw [r.len]; exact q
      show (ixN xs.length i).bind (fun j => xs[j]?) = some v
      rw [q']
      exact h1
theorem o2_ix : Op2 K (rIx K) ixD := fun W E F H x y d1 d2 Q s r1 r2 m => by
  cases r1 with
  | lst h1 h2 =>
    cases r2 with
    | int i =>
      obtain ⟨v, d, a, b, c⟩ := itemAt_rp h2 m
      exact .inl ⟨_, _, i, v, rfl, rfl, sqr_l (sqr_mono s h1), a, c v H F (Same.refl H) (Ext.refl F H) s b⟩
    | _ => exact False.elim m
  | tup h1 h2 =>
    cases r2 with
    | int i =>
      obtain ⟨v, d, a, b, c⟩ := itemAt_rp h2 m
      exact .inr (.inl ⟨_, _, i, v, rfl, rfl, sqt_mono s h1, a, c v H F (Same.refl H) (Ext.refl F H) s b⟩)
    | _ => exact False.elim m
  | _ => cases r2 <;> exact False.elim m
/-- list + list, whoever holds them -/
def rCatR (K : PySem.W.Frag) : R2 := fun x y H Q => ∃ l b xs zs, x = .ref l ∧ y = .ref b ∧ SqR K H l xs ∧ SqR K H b zs ∧ xs.length + zs.length ≤ sizeLine ∧ ∀ p, H p = none → Q (.ref p) (upd H p (.lst (xs ++ zs)))
theorem lst_of {X : Cx} {pins : List (Addr × Obj)} {σ : L2.St} {H : Hp} {s : Shared} {l : Addr} {xs : List V} (I : Inv X pins σ H s) (hH : SqR X.K H l xs) :
    xs.length ≤ sizeLine ∧ ∃ (its : List Value) (n : Nat), Vals xs its ∧ xs.length = its.length ∧ s.heap.get? l = some { cls := .type "list", data := .seq its.toArray n } := by
  rcases hH with hH | ⟨its, n, h1, h2, r⟩
  · have ok : ObjOk X.prog X.w H s.heap l (.lst xs) := hH.ok I.hok
    obtain ⟨a, its, n, r, q⟩ := ok
    exact ⟨a, its, n, r, r.length, q⟩
  · have z := r.length
    have e : its.toList.toArray = its := by simp
    exact ⟨by rw [z]; simpa using h2, its.toList, n, r, z, by rw [e]; exact I.kIn l _ h1⟩
theorem op_catR {X : Cx} : OpR X (binaryOp .Add) (rCatR X.K) := fun pins s σ H x y v u Q I rx ry ⟨l, b, xs, zs, ex, ey, h1, h2, hz, q⟩ => by
  subst ex; subst ey
  cases rx; cases ry
  obtain ⟨_, us, n, r, l1, e⟩ := lst_of I h1
  obtain ⟨_, ws, n', r', l2, e'⟩ := lst_of I h2
  refine PySem.P.add_list e e' ?_ (by simp only [List.size_toArray]; omega)
  rw [show us.toArray ++ ws.toArray = (us ++ ws).toArray from by simp]
  refine ⟨.ref s.heap.objs.size, _, I.lnew (t' := s.toks) (Vals.append r r') (by simpa using hz), rfl, q _ I.fresh⟩
theorem on_cat : OpN K (rCatR K) catD := fun W E F H x y d1 d2 Q s r1 r2 m => by
  cases r1 with
  | lst h1 h2 =>
    cases r2 with
    | lst h3 h4 =>
      rename_i a xs ds b ys es
      have m : Hd E W H (if ds.length + es.length ≤ big then .ok (.list (ds ++ es)) else .no) (NPost K W F H Q) := m
      by_cases z : ds.length + es.length ≤ big
      · rw [if_pos z] at m
        refine ⟨a, b, xs, ys, rfl, rfl, sqr_mono s h1, sqr_mono s h3, by rw [h2.len, h4.len]; exact Nat.le_trans z big_le, fun p hp => ?_⟩
        exact m p (xs ++ ys) (ds ++ es) _ F rfl (same_upd hp) (Ext.refl F H) (s.trans (same_upd hp)) hp (none_back s hp) upd_same (h2.app h4)
      · rw [if_neg z] at m; exact False.elim m
    | _ => exact False.elim m
  | _ => cases r2 <;> exact False.elim m
/-- list * int, whoever holds the list -/
def rRepR (K : PySem.W.Frag) : R2 := fun x y H Q => ∃ l k xs, x = .ref l ∧ y = .int k ∧ SqR K H l xs ∧ -(2 ^ 63) ≤ k ∧ k < 2 ^ 63 ∧ xs.length * k.toNat ≤ sizeLine ∧ ∀ p, H p = none → Q (.ref p) (upd H p (.lst (List.replicate k.toNat xs).flatten))
theorem rep_arr (us : List Value) (k : Nat) : List.foldl (fun a b => a ++ b) #[] (List.replicate (if us.toArray.isEmpty = true then 0 else k) us.toArray) = (List.replicate k us).flatten.toArray := by
  have gen : ∀ m : Nat, List.foldl (fun a b => a ++ b) #[] (List.replicate m us.toArray) = (List.replicate m us).flatten.toArray := fun m => by
    have z := foldl_rep us m []
    rw [List.nil_append] at z
    exact z
  rw [gen]
  cases us with
  | nil => simp
  | cons a r => rw [if_neg (by simp)]
theorem op_repR {X : Cx} : OpR X (binaryOp .Mult) (rRepR X.K) := fun pins s σ H x y v u Q I rx ry ⟨l, k, xs, ex, ey, h1, k1, k2, hz, q⟩ => by
  subst ex; subst ey
  cases rx
  obtain ⟨t, rfl⟩ := ry
  obtain ⟨_, us, n, r, l1, e⟩ := lst_of I h1
  have len1 : us.toArray.size * k.toNat ≤ sizeLine := by rw [List.size_toArray, ← l1]; exact hz
  have top : (sizeLine : Nat) ≤ (2 ^ 63 - 1) / 8 := by decide
  have c1 : ¬ us.toArray.size * k.toNat > (2 ^ 63 - 1) / 8 := fun w => absurd w (by omega)
  have c2 : ¬ (!Builtin.List.listFitsIndex k) = true := by rw [fitsIndex_both k1 k2]; decide
  have c3 : ¬ Builtin.List.listTooLong (us.toArray.size * k.toNat) = true := by rw [notLongL len1]; decide
  have own : ∃ o : Obj, s.heap.get? l = some o ∧ o.cls = .type "list" := ⟨_, e, rfl⟩
  refine PySem.wpAny_binaryOp_repeat_ref (T := "list") (U := "int") (by decide) own (fun s' => typeIs_int s' k t) PySem.noFill_list_mul F.fills_int_mul F.slot_int_rmul PySem.repeat_list F.slot_int_index.lookup ?_
  refine call_meets F.slot_int_rmul (typeIs_int s k t) F.entry_int_rmul (F.args_int_rmul_2 _ _) (PySem.int___rmul___int_list k t l us.toArray n) ⟨e, rfl, own, ?_⟩
  refine call_meets F.slot_list_mul own F.entry_list_mul (F.args_list_mul_2 _ _) (AutoListH.list___mul___list_int_3 l us.toArray n k t c2 c1 c3) ⟨e, ?_⟩
  rw [rep_arr us k.toNat]
  refine ⟨.ref s.heap.objs.size, _, I.lnew (t' := s.toks) (r.rep k.toNat) ?_, rfl, q _ I.fresh⟩
  rw [PyProof.Rows.lm_len_rep_flat, Nat.mul_comm]
  exact hz
theorem on_rep : OpN K (rRepR K) repD := fun W E F H x y d1 d2 Q s r1 r2 m => by
  cases r1 with
  | lst h1 h2 =>
    cases r2 with
    | int k =>
      rename_i a xs ds
      have m : Hd E W H (if -(2 ^ 63) ≤ k ∧ k < 2 ^ 63 ∧ ds.length * k.toNat ≤ big then .ok (.list (List.replicate k.toNat ds).flatten) else .no) (NPost K W F H Q) := m
      by_cases z : -(2 ^ 63) ≤ k ∧ k < 2 ^ 63 ∧ ds.length * k.toNat ≤ big
      · rw [if_pos z] at m
        refine ⟨a, k, xs, rfl, rfl, sqr_mono s h1, z.1, z.2.1, by rw [h2.len]; exact Nat.le_trans z.2.2 big_le, fun p hp => ?_⟩
        exact m p _ (List.replicate k.toNat ds).flatten _ F rfl (same_upd hp) (Ext.refl F H) (s.trans (same_upd hp)) hp (none_back s hp) upd_same (h2.rep k.toNat)
      · rw [if_neg z] at m; exact False.elim m
    | _ => exact False.elim m
  | _ => cases r2 <;> exact False.elim m
end
end Vx

set_option Elab.async false
set_option linter.all false
set_option maxRecDepth 100000
set_option maxHeartbeats 4000000
/-! VW3: built-ins on data, slices, walks, comprehensions. -/
namespace Vx
open PySem L2
section
variable {K : PySem.W.Frag} {C : Rc} {F : Hp}
theorem one_of {vs : List V} {ds : List D} (r : RpA K C F vs ds) : (∃ v d, vs = [v] ∧ ds = [d] ∧ Rp K C F v d) ∨ ∀ d, ds ≠ [d] := by
  cases r with
  | nil => exact .inr fun _ e => by cases e
  | cons r t =>
    cases t with
    | nil => exact .inl ⟨_, _, rfl, rfl, r⟩
    | cons _ _ => exact .inr fun _ e => by cases e
theorem two_of {vs : List V} {ds : List D} (r : RpA K C F vs ds) : (∃ v w d e, vs = [v, w] ∧ ds = [d, e] ∧ Rp K C F v d ∧ Rp K C F w e) ∨ ∀ d e, ds ≠ [d, e] := by
  cases r with
  | nil => exact .inr fun _ _ e => by cases e
  | cons r t =>
    cases t with
    | nil => exact .inr fun _ _ e => by cases e
    | cons r2 t2 =>
      cases t2 with
      | nil => exact .inl ⟨_, _, _, _, rfl, rfl, r, r2⟩
      | cons _ _ => exact .inr fun _ _ e => by cases e
theorem two_ints {vs : List V} {ds : List D} (r : RpA K C F vs ds) : (∃ i j, vs = [.int i, .int j] ∧ ds = [.int i, .int j]) ∨ ∀ i j, ds ≠ [.int i, .int j] := by
  rcases two_of r with ⟨v, w, d, e, rfl, rfl, r1, r2⟩ | z
  · cases r1 with
    | int i =>
      cases r2 with
      | int j => exact .inl ⟨i, j, rfl, rfl⟩
      | _ => exact .inr fun _ _ e => by cases e
    | _ => exact .inr fun _ _ e => by cases e
  · exact .inr fun i j => z _ _
end
section
variable {K : PySem.W.Frag}
/-! ### built-ins -/
/-- a built-in of one argument -/
theorem ca_one {r : List V → Hp → VK → Prop} {f : List D → R D} (h : ∀ (W : Vp) (E : XK) (F H : Hp) (v : V) (d : D) (Q : VK), Same F H → Rp K W.rc F v d → Hd E W H (f [d]) (VPost K W F H Q) → r [v] H Q) (no : ∀ ds, (∀ d, ds ≠ [d]) → f ds = .no) : CaR K r f := fun W E F H vs ds Q s q m => by
  rcases one_of q with ⟨v, d, rfl, rfl, z⟩ | z
  · exact h W E F H v d Q s z m
  · rw [no ds z] at m; exact False.elim m
theorem cn_one {r : List V → Hp → VK → Prop} {f : List D → R D} (h : ∀ (W : Vp) (E : XK) (F H : Hp) (v : V) (d : D) (Q : VK), Same F H → Rp K W.rc F v d → Hd E W H (f [d]) (NPost K W F H Q) → r [v] H Q) (no : ∀ ds, (∀ d, ds ≠ [d]) → f ds = .no) : CaN K r f := fun W E F H vs ds Q s q m => by
  rcases one_of q with ⟨v, d, rfl, rfl, z⟩ | z
  · exact h W E F H v d Q s z m
  · rw [no ds z] at m; exact False.elim m
theorem not_one {f : D → R D} {ds : List D} {g : List D → R D} (hg : ∀ d, g [d] = f d) (h0 : g [] = .no) (h2 : ∀ a b r, g (a :: b :: r) = .no) (z : ∀ d, ds ≠ [d]) : g ds = .no := by
  cases ds with
  | nil => exact h0
  | cons a r =>
    cases r with
    | nil => exact (z a rfl).elim
    | cons b r => exact h2 a b r
theorem ca_len : CaR K (fun xs H Q => ∃ p ys, xs = [.ref p] ∧ (SqL K H p ys ∨ SqT K H p ys) ∧ Q (.int ys.length) H) fLen := ca_one (fun W E F H v d Q s r m => by
  cases r with
  | lst h1 h2 =>
    refine ⟨_, _, rfl, .inl (sqr_l (sqr_mono s h1)), ?_⟩
    rw [h2.len]
    exact m _ H F (Same.refl H) (Ext.refl F H) s (.int _)
  | tup h1 h2 =>
    refine ⟨_, _, rfl, .inr (sqt_mono s h1), ?_⟩
    rw [h2.len]
    exact m _ H F (Same.refl H) (Ext.refl F H) s (.int _)
  | _ => exact False.elim m) fun ds z => not_one (g := fLen) (f := fun d => fLen [d]) (fun _ => rfl) rfl (fun a b r => by cases a <;> rfl) z
theorem ca_abs : CaR K (fun xs H Q => ∃ i, xs = [.int i] ∧ Q (.int (if i < 0 then -i else i)) H) fAbs := ca_one (fun W E F H v d Q s r m => by
  cases r with
  | int i => exact ⟨i, rfl, m _ H F (Same.refl H) (Ext.refl F H) s (.int _)⟩
  | _ => exact False.elim m) fun ds z => not_one (g := fAbs) (f := fun d => fAbs [d]) (fun _ => rfl) rfl (fun a b r => by cases a <;> rfl) z
theorem ca_int : CaR K (fun xs H Q => (∃ i, xs = [.int i] ∧ Q (.int i) H) ∨ ∃ k, xs = [.bl k] ∧ Q (.int (if k then 1 else 0)) H) fInt := ca_one (fun W E F H v d Q s r m => by
  cases r with
  | int i => exact .inl ⟨i, rfl, m _ H F (Same.refl H) (Ext.refl F H) s (.int _)⟩
  | bl i => exact .inr ⟨i, rfl, m _ H F (Same.refl H) (Ext.refl F H) s (.int _)⟩
  | _ => exact False.elim m) fun ds z => not_one (g := fInt) (f := fun d => fInt [d]) (fun _ => rfl) rfl (fun a b r => by cases a <;> rfl) z
theorem ca_sum : CaR K (rSum K) fSum := ca_one (fun W E F H v d Q s r m => by
  cases r with
  | lst h1 h2 =>
    rename_i a xs ds
    have m : Hd E W H (match asInts ds with | some ns => R.ok (.int ns.sum) | none => .no) (VPost K W F H Q) := m
    cases q : asInts ds with
    | none => rw [q] at m; exact False.elim m
    | some ns =>
      rw [q] at m
      exact ⟨a, ns, rfl, sqr_l (by rw [← h2.ofInts q]; exact sqr_mono s h1), m _ H F (Same.refl H) (Ext.refl F H) s (.int _)⟩
  | _ => exact False.elim m) fun ds z => not_one (g := fSum) (f := fun d => fSum [d]) (fun _ => rfl) rfl (fun a b r => by cases a <;> rfl) z
theorem ca_any : CaR K (rAny K) fAny := ca_one (fun W E F H v d Q s r m => by
  cases r with
  | lst h1 h2 =>
    rename_i a xs ds
    have m : Hd E W H (match asBools ds with | some ns => R.ok (.bool (ns.any id)) | none => .no) (VPost K W F H Q) := m
    cases q : asBools ds with
    | none => rw [q] at m; exact False.elim m
    | some ns =>
      rw [q] at m
      exact ⟨a, ns, rfl, sqr_l (by rw [← h2.ofBools q]; exact sqr_mono s h1), m _ H F (Same.refl H) (Ext.refl F H) s (.bl _)⟩
  | _ => exact False.elim m) fun ds z => not_one (g := fAny) (f := fun d => fAny [d]) (fun _ => rfl) rfl (fun a b r => by cases a <;> rfl) z
theorem ca_all : CaR K (rAll K) fAll := ca_one (fun W E F H v d Q s r m => by
  cases r with
  | lst h1 h2 =>
    rename_i a xs ds
    have m : Hd E W H (match asBools ds with | some ns => R.ok (.bool (ns.all id)) | none => .no) (VPost K W F H Q) := m
    cases q : asBools ds with
    | none => rw [q] at m; exact False.elim m
    | some ns =>
      rw [q] at m
      exact ⟨a, ns, rfl, sqr_l (by rw [← h2.ofBools q]; exact sqr_mono s h1), m _ H F (Same.refl H) (Ext.refl F H) s (.bl _)⟩
  | _ => exact False.elim m) fun ds z => not_one (g := fAll) (f := fun d => fAll [d]) (fun _ => rfl) rfl (fun a b r => by cases a <;> rfl) z
theorem ca_max2 : CaR K (fun xs H Q => ∃ i j, xs = [.int i, .int j] ∧ Q (.int (if j > i then j else i)) H) fMax2 := fun W E F H vs ds Q s r m => by
  rcases two_ints r with ⟨i, j, rfl, rfl⟩ | z
  · exact ⟨i, j, rfl, m _ H F (Same.refl H) (Ext.refl F H) s (.int _)⟩
  · have q : fMax2 ds = .no := by
      unfold fMax2
      split
      · exact (z _ _ rfl).elim
      · rfl
    rw [q] at m; exact False.elim m
theorem ca_min2 : CaR K (fun xs H Q => ∃ i j, xs = [.int i, .int j] ∧ Q (.int (if j < i then j else i)) H) fMin2 := fun W E F H vs ds Q s r m => by
  rcases two_ints r with ⟨i, j, rfl, rfl⟩ | z
  · exact ⟨i, j, rfl, m _ H F (Same.refl H) (Ext.refl F H) s (.int _)⟩
  · have q : fMin2 ds = .no := by
      unfold fMin2
      split
      · exact (z _ _ rfl).elim
      · rfl
    rw [q] at m; exact False.elim m
theorem ca_gcd : CaR K rGcd fGcd := fun W E F H vs ds Q s r m => by
  rcases two_ints r with ⟨i, j, rfl, rfl⟩ | z
  · exact ⟨i, j, rfl, m _ H F (Same.refl H) (Ext.refl F H) s (.int _)⟩
  · have q : fGcd ds = .no := by
      unfold fGcd
      split
      · exact (z _ _ rfl).elim
      · rfl
    rw [q] at m; exact False.elim m
theorem cn_list : CaN K (fun xs H Q => ∃ p ys, xs = [.ref p] ∧ (SqL K H p ys ∨ SqT K H p ys) ∧ ∀ l, H l = none → Q (.ref l) (upd H l (.lst ys))) fList := cn_one (fun W E F H v d Q s r m => by
  cases r with
  | lst h1 h2 => exact ⟨_, _, rfl, .inl (sqr_l (sqr_mono s h1)), fun p hp => m p _ _ _ F rfl (same_upd hp) (Ext.refl F H) (s.trans (same_upd hp)) hp (none_back s hp) upd_same h2⟩
  | tup h1 h2 => exact ⟨_, _, rfl, .inr (sqt_mono s h1), fun p hp => m p _ _ _ F rfl (same_upd hp) (Ext.refl F H) (s.trans (same_upd hp)) hp (none_back s hp) upd_same h2⟩
  | _ => exact False.elim m) fun ds z => not_one (g := fList) (f := fun d => fList [d]) (fun _ => rfl) rfl (fun a b r => by cases a <;> rfl) z
theorem ca_tuple : CaR K (fun xs H Q => ∃ p ys, xs = [.ref p] ∧ ((SqL K H p ys ∧ ∀ l, H l = none → Q (.ref l) (upd H l (.tup ys))) ∨ (SqT K H p ys ∧ Q (.ref p) H))) fTuple := ca_one (fun W E F H v d Q s r m => by
  cases r with
  | lst h1 h2 => exact ⟨_, _, rfl, .inl ⟨sqr_l (sqr_mono s h1), fun p hp => m _ _ (upd F p (.tup _)) (same_upd hp) (Ext.one hp s) (same_upd2 s) (.tup (SqT.of upd_same) (h2.up (Ext.one hp s).up))⟩⟩
  | tup h1 h2 => exact ⟨_, _, rfl, .inr ⟨sqt_mono s h1, m _ H F (Same.refl H) (Ext.refl F H) s (.tup h1 h2)⟩⟩
  | _ => exact False.elim m) fun ds z => not_one (g := fTuple) (f := fun d => fTuple [d]) (fun _ => rfl) rfl (fun a b r => by cases a <;> rfl) z
theorem insI_perm (i : Int) : ∀ l : List Int, (insI i l).Perm (i :: l)
  | [] => .refl _
  | j :: r => by
    unfold insI
    split
    · exact .refl _
    · exact ((insI_perm i r).cons j).trans (.swap i j r)
theorem sortI_perm : ∀ l : List Int, (sortI l).Perm l
  | [] => .refl _
  | i :: r => (insI_perm i _).trans ((sortI_perm r).cons i)
theorem insI_mem {i x : Int} {l : List Int} (h : x ∈ insI i l) : x = i ∨ x ∈ l := by
  have := (insI_perm i l).mem_iff.mp h
  simpa using this
theorem insI_sorted (i : Int) : ∀ l : List Int, l.Pairwise (· ≤ ·) → (insI i l).Pairwise (· ≤ ·)
  | [], _ => by simp [insI]
  | j :: r, h => by
    have h' := List.pairwise_cons.mp h
    unfold insI
    split
    · rename_i hij
      exact List.pairwise_cons.mpr ⟨fun x hx => by
        rcases List.mem_cons.mp hx with e | e
        · rw [e]; exact hij
        · have := h'.1 x e; omega, h⟩
    · exact List.pairwise_cons.mpr ⟨fun x hx => by
        rcases insI_mem hx with e | e
        · rw [e]; omega
        · exact h'.1 x e, insI_sorted i r h'.2⟩
theorem sortI_sorted : ∀ l : List Int, (sortI l).Pairwise (· ≤ ·)
  | [] => .nil
  | i :: r => insI_sorted i _ (sortI_sorted r)
theorem cn_sorted : CaN K (rSortedI K) fSorted := cn_one (fun W E F H v d Q s r m => by
  cases r with
  | lst h1 h2 =>
    rename_i a xs ds
    have m : Hd E W H (match asInts ds with | some ns => R.ok (.list ((sortI ns).map .int)) | none => .no) (NPost K W F H Q) := m
    cases q : asInts ds with
    | none => rw [q] at m; exact False.elim m
    | some ns =>
      rw [q] at m
      refine ⟨a, ns, rfl, sqr_l (by rw [← h2.ofInts q]; exact sqr_mono s h1), fun ns' p hp hs hn => ?_⟩
      have e : ns' = sortI ns := PySem.W.ksm_same (hp.trans (sortI_perm ns).symm) hs (sortI_sorted ns)
      rw [e]
      exact m p _ ((sortI ns).map PyData.int) _ F rfl (same_upd hn) (Ext.refl F H) (s.trans (same_upd hn)) hn (none_back s hn) upd_same RpA.ints
  | _ => exact False.elim m) fun ds z => not_one (g := fSorted) (f := fun d => fSorted [d]) (fun _ => rfl) rfl (fun a b r => by cases a <;> rfl) z

/-! ### isinstance(x, T), T a built-in type -/
theorem ve_isi {X : Cx} {W : Vp} {E : L2.St → XK} {x : List Nat} {e : Expr} {g : EF} {T : String} (h : PE X e (tCB (rIsi X.K) (tCons (tV X.K W E x g) (tCons (L2.tC (.ty T)) tNil)))) (hk : ∀ t ∈ ["NoneType", "bool", "int", "str", "list", "tuple"], kitB t T = some (subT t T) := by decide +kernel) : VE X W E x e (e1 (isiD T) g) := h.wk fun σ H Q ⟨F, ρ, s, o, m⟩ =>
  ⟨F, ρ, s, o, (hd_bind m).imp fun d m1 v H1 F1 s1 x1 f1 r1 => by
    unfold isiD at m1
    cases q : tyD d with
    | none => rw [q] at m1; exact False.elim m1
    | some t =>
      simp only [q] at m1
      have z : kitB t T = some (subT t T) := hk t (by cases d <;> cases q <;> simp)
      generalize subT t T = b at z m1
      · have fin : Q (.bl b) H1 := m1 _ H1 F1 s1 x1 f1 (.bl b)
        have tx : TyX X.K H1 v (.type t) := by
          cases r1 with
          | non => cases q; exact .base .non
          | bl b => cases q; exact .base (.bl b)
          | int b => cases q; exact .base (.int b)
          | str b => cases q; exact .base (.str b)
          | lst h1 h2 =>
            cases q
            rcases sqr_mono f1 h1 with (h1 | ⟨o, h1⟩) | ⟨its, n, h1, _⟩
            · exact .base (.lst h1)
            · exact .base (.frz h1)
            · exact .kList h1 rfl
          | tup h1 h2 =>
            cases q
            rcases sqt_mono f1 h1 with (h1 | ⟨o, h1⟩) | ⟨o, its, n, h1, h2, _⟩
            · exact .base (.tup h1)
            · exact .fTuple h1
            · exact .kTuple h1 h2
          | obj h1 h2 => cases q
          | exn h1 => cases q
        exact ⟨v, .ty T, .type t, .type T, b, rfl, .ty T, tx, kit_ty z, fin⟩⟩

/-! ### slices of lists -/
def tO (K : PySem.W.Frag) (W : Vp) (E : L2.St → XK) (x : List Nat) (g : OF) : TO := fun σ H Q => ∃ F ρ, Same F H ∧ EnvOk K W x F H σ ρ ∧ Hd (E σ) W H (g ρ) fun o => ∀ H' F', Same H H' → Ext F H F' → Same F' H' → Q o H'
abbrev VO (X : Cx) (W : Vp) (E : L2.St → XK) (x : List Nat) (e : Option Expr) (g : OF) : Prop := PO X e (tO X.K W E x g)
theorem _root_.L2.PO.wk {X : Cx} {e : Option Expr} {t t' : TO} (h : PO X e t) (i : ∀ σ H Q, t' σ H Q → t σ H Q) : PO X e t' := ⟨fun pins s σ H Q I q => h.run pins s σ H Q I (i σ H Q q)⟩
theorem vo_none {X : Cx} {W : Vp} {E : L2.St → XK} {x : List Nat} : VO X W E x none oN := po_none.wk fun σ H Q ⟨F, ρ, s, o, m⟩ => m H F (Same.refl H) (Ext.refl F H) s
theorem vo_some {X : Cx} {W : Vp} {E : L2.St → XK} {x : List Nat} {e : Expr} {g : EF} (h : VE X W E x e g) : VO X W E x (some e) (oS g) := (po_some h).wk fun σ H Q ⟨F, ρ, s, o, m⟩ =>
  ⟨F, ρ, s, o, (hd_bind m).imp fun d m1 v H1 F1 s1 x1 f1 r1 => by
    cases r1 with
    | int i => exact ⟨i, rfl, m1 H1 F1 s1 x1 f1⟩
    | _ => exact False.elim m1⟩
theorem cutV_rp {C : Rc} {F : Hp} {xs : List V} {ds : List D} (r : RpA K C F xs ds) (lo hi : Option Int) : RpA K C F (cutV xs lo hi) (cutL ds lo hi) := by
  have l := r.len
  have e1 : ∀ n d o, HT.sIx n d o = sIxV n d o := fun n d o => by
    cases o with
    | none => rfl
    | some v => rfl
  unfold cutV cutL
  rw [e1, e1, l]
  exact (r.drop _).take _
theorem vn_sl {X : Cx} {W : Vp} {E : L2.St → XK} {x : List Nat} {e : Expr} {lo hi : Option Expr} {p2 pos : Pos} {g : EF} {gl gh : OF} (he : VE X W E x e g) (hl : VO X W E x lo gl) (hh : VO X W E x hi gh) : VN X W E x (.Subscript e (.Slice lo hi none p2) pos) (eSl g gl gh) :=
  (pe_slice sl_list he hl hh).wk fun σ H Q ⟨F, ρ, s, o, m⟩ =>
    ⟨F, ρ, s, o, (hd_bind m).imp fun d m1 v H1 F1 s1 x1 f1 r1 => ⟨F1, ρ, f1, o.mono x1.up s1, ((hd_bind m1).heap s1).imp fun a m2 H2 F2 s2 x2 f2 =>
      ⟨F2, ρ, f2, (o.mono x1.up s1).mono x2.up s2, ((hd_bind m2).heap (s1.trans s2)).imp fun b m3 H3 F3 s3 x3 f3 => by
        cases r1 with
        | lst h1 h2 =>
          have f13 : Same F1 F3 := x2.up.trans x3.up
          have s13 := (s1.trans s2).trans s3
          refine ⟨_, _, rfl, sqr_l (sqr_mono (f13.trans f3) h1), fun p hp => ?_⟩
          exact m3 p _ _ _ F3 rfl (s13.trans (same_upd hp)) ((x1.trans s1 x2).trans (s1.trans s2) x3) (f3.trans (same_upd hp)) (none_back s13 hp) (none_back f3 hp) upd_same (cutV_rp (h2.up f13) a b)
        | _ => exact False.elim m3⟩⟩⟩
end
end Vx

set_option Elab.async false
set_option linter.all false
set_option maxRecDepth 100000
set_option maxHeartbeats 4000000
/-! VW4: what is walked, targets, comprehensions. -/
namespace Vx
open PySem L2

/-- what one turn of a walk hands on -/
def Yields (K : PySem.W.Frag) (W : Vp) (F' : Hp) (ds : List D) (Y : Nat → Hp → V → Hp → Prop) : Prop :=
  ∀ i H1 v H2 F1, i < ds.length → Y i H1 v H2 → Same F' F1 → Same F1 H1 → ∃ d F2, ds[i]? = some d ∧ Same H1 H2 ∧ Ext F1 H1 F2 ∧ Same F2 H2 ∧ Rp K W.rc F2 v d
def tI (K : PySem.W.Frag) (W : Vp) (E : L2.St → XK) (x : List Nat) (g : AF) : TI := fun σ H RR => ∃ F ρ, Same F H ∧ EnvOk K W x F H σ ρ ∧ Hd (E σ) W H (g ρ) fun ds =>
  ∀ J H' F' G Y, Same H H' → Ext F H F' → Same F' H' → Walk J ds.length G Y → (∀ H2, Same F' H2 → G H2) → Yields K W F' ds Y → RR J H'
abbrev VI (X : Cx) (W : Vp) (E : L2.St → XK) (x : List Nat) (tg e : Expr) (g : AF) : Prop := PI X tg e (tI X.K W E x g)
section
variable {X : Cx} {W : Vp} {E : L2.St → XK} {x : List Nat} {tg e a b : Expr} {g : EF} {gA : AF}
theorem vi_list (h : VE X W E x e g) : VI X W E x tg e (iSeq g) := (pi_list h).wk fun σ H RR ⟨F, ρ, s, o, m⟩ => ⟨F, ρ, s, o, (hd_bind m).imp fun d m1 v H1 F1 s1 x1 f1 r1 => by
  cases r1 with
  | lst h1 h2 =>
    rename_i p xs ds
    refine ⟨p, rfl, ⟨xs, sqr_l (sqr_mono f1 h1)⟩, m1 _ H1 F1 _ _ s1 x1 f1 (by rw [← h2.len]; exact walk_list (K := X.K) (a := p) (xs := xs)) (fun H2 z => sqr_l (sqr_mono z h1)) fun i Ha v Hb Fa hi y z1 z2 => ?_⟩
    obtain ⟨e1, e2⟩ := y
    obtain ⟨d, q1, q2⟩ := h2.getV e2
    subst e1
    exact ⟨d, Fa, q1, Same.refl _, Ext.refl _ _, z2, q2.up z1⟩
  | _ => exact False.elim m1⟩
theorem vi_tup (h : VE X W E x e g) : VI X W E x tg e (iTup g) := (pi_tup h).wk fun σ H RR ⟨F, ρ, s, o, m⟩ => ⟨F, ρ, s, o, (hd_bind m).imp fun d m1 v H1 F1 s1 x1 f1 r1 => by
  cases r1 with
  | tup h1 h2 =>
    rename_i p xs ds
    refine ⟨p, rfl, ⟨xs, sqt_mono f1 h1⟩, m1 _ H1 F1 _ _ s1 x1 f1 (by rw [← h2.len]; exact walk_tup (K := X.K) (a := p) (xs := xs)) (fun H2 z => sqt_mono z h1) fun i Ha v Hb Fa hi y z1 z2 => ?_⟩
    obtain ⟨e1, e2⟩ := y
    obtain ⟨d, q1, q2⟩ := h2.getV e2
    subst e1
    exact ⟨d, Fa, q1, Same.refl _, Ext.refl _ _, z2, q2.up z1⟩
  | _ => exact False.elim m1⟩
theorem rangeD_len (lo hi : Int) : (rangeD lo hi).length = (hi - lo).toNat := by simp [rangeD]
theorem rangeD_get {lo hi : Int} {i : Nat} (h : i < (rangeD lo hi).length) : (rangeD lo hi)[i]? = some (.int (lo + (i : Nat))) := by
  rw [rangeD_len] at h
  simp [rangeD, h]
theorem rng_yields {K : PySem.W.Frag} {lo hi : Int} {F' : Hp} : Yields K W F' (rangeD lo hi) (YFn fun i => .int (lo + (i : Nat))) := fun i Ha v Hb Fa h y z1 z2 => by
  obtain ⟨e1, e2⟩ := y
  subst e1; subst e2
  exact ⟨_, Fa, rangeD_get h, Same.refl _, Ext.refl _ _, z2, .int _⟩
theorem vi_rng1 {p pos : Pos} (hg : Gl X "range") (hm : X.mg "range" = none) (ha : VA X W E x [a] gA) (hs : starEach [a] X.env = [(false, eval a X.env)] := by rfl) : VI X W E x tg (.Call (.Name "range" p) [a] [] pos) (iRg1 gA) :=
  (pi_range1 hg hm ha hs).wk fun σ H RR ⟨F, ρ, s, o, m⟩ => ⟨F, ρ, s, o, (hd_bind m).imp fun ds m1 vs H1 F1 s1 x1 f1 r1 => by
    rcases one_of r1 with ⟨v, d, rfl, rfl, r⟩ | z
    · cases r with
      | int j =>
        have m1 : Hd (E σ) W H (if -(2 ^ 62) ≤ j ∧ j < 2 ^ 62 then R.ok (rangeD 0 j) else .no) _ := m1
        by_cases c : -(2 ^ 62) ≤ j ∧ j < 2 ^ 62
        · rw [if_pos c] at m1
          have w := walk_range (lo := 0) (n := j.toNat)
          have l : (rangeD 0 j).length = j.toNat := by rw [rangeD_len]; simp
          refine ⟨j, rfl, c.1, c.2, m1 _ H1 F1 _ _ s1 x1 f1 (by rw [l]; exact w) (fun _ _ => True.intro) rng_yields⟩
        · rw [if_neg c] at m1; exact False.elim m1
      | _ => exact False.elim m1
    · have q : rng1 ds = .no := by
        unfold rng1
        split
        · exact (z _ rfl).elim
        · rfl
      rw [q] at m1; exact False.elim m1⟩
theorem vi_rng2 {p pos : Pos} (hg : Gl X "range") (hm : X.mg "range" = none) (ha : VA X W E x [a, b] gA) (hs : starEach [a, b] X.env = [(false, eval a X.env), (false, eval b X.env)] := by rfl) (hs2 : starEach [b] X.env = [(false, eval b X.env)] := by rfl) :
    VI X W E x tg (.Call (.Name "range" p) [a, b] [] pos) (iRg2 gA) :=
  (pi_range2 hg hm ha hs hs2).wk fun σ H RR ⟨F, ρ, s, o, m⟩ => ⟨F, ρ, s, o, (hd_bind m).imp fun ds m1 vs H1 F1 s1 x1 f1 r1 => by
    rcases two_ints r1 with ⟨i, j, rfl, rfl⟩ | z
    · have m1 : Hd (E σ) W H (if -(2 ^ 62) ≤ i ∧ i < 2 ^ 62 ∧ -(2 ^ 62) ≤ j ∧ j < 2 ^ 62 then R.ok (rangeD i j) else .no) _ := m1
      by_cases c : -(2 ^ 62) ≤ i ∧ i < 2 ^ 62 ∧ -(2 ^ 62) ≤ j ∧ j < 2 ^ 62
      · rw [if_pos c] at m1
        refine ⟨i, j, rfl, c, m1 _ H1 F1 _ _ s1 x1 f1 (by rw [rangeD_len]; exact walk_range (lo := i) (n := (j - i).toNat)) (fun _ _ => True.intro) rng_yields⟩
      · rw [if_neg c] at m1; exact False.elim m1
    · have q : rng2 ds = .no := by
        unfold rng2
        split
        · exact (z _ _ rfl).elim
        · rfl
      rw [q] at m1; exact False.elim m1⟩
theorem enumD_len : ∀ (k : Nat) (ds : List D), (enumD k ds).length = ds.length
  | _, [] => rfl
  | k, d :: ds => congrArg (· + 1) (enumD_len (k + 1) ds)
theorem enumD_get : ∀ (k : Nat) (ds : List D) (i : Nat) (d : D), ds[i]? = some d → (enumD k ds)[i]? = some (.tuple [.int ((k + i : Nat) : Int), d])
  | _, [], _, _, h => by simp at h
  | k, d :: ds, 0, _, h => by simp at h; subst h; rfl
  | k, d :: ds, i + 1, e, h => by
    have := enumD_get (k + 1) ds i e (by simpa using h)
    rw [show k + 1 + i = k + (i + 1) by omega] at this
    simpa [enumD] using this
theorem vi_enum {p pos tpos : Pos} {elts : List Expr} {kk : Nat} (h : PI X (.Tuple elts kk tpos) e (iEnum X.K (tA X.K W E x gA))) : VI X W E x (.Tuple elts kk tpos) e (iEnu gA) :=
  h.wk fun σ H RR ⟨F, ρ, s, o, m⟩ => ⟨F, ρ, s, o, (hd_bind m).imp fun ds m1 vs H1 F1 s1 x1 f1 r1 => by
    rcases one_of r1 with ⟨v, d, rfl, rfl, r⟩ | z
    · cases r with
      | lst h1 h2 =>
        rename_i q xs es
        refine ⟨q, xs, rfl, sqr_l (sqr_mono f1 h1), m1 _ H1 F1 _ _ s1 x1 f1 (by rw [enumD_len, ← h2.len]; exact walk_enum (K := X.K) (a := q) (xs := xs)) (fun H2 z => sqr_l (sqr_mono z h1)) fun i Ha v Hb Fa hi y z1 z2 => ?_⟩
        obtain ⟨T, y1, y2, e1, e2, e3, e4, e5⟩ := y
        cases e4
        obtain ⟨d, q1, q2⟩ := h2.getV e5
        subst e1; subst e3
        refine ⟨_, upd Fa T (.tup [.int (i : Nat), y2]), enumD_get 0 es i d q1, same_upd e2, Ext.one e2 z2, same_upd2 z2, ?_⟩
        rw [Nat.zero_add]
        exact .tup (SqT.of upd_same) (.cons (.int _) (.cons ((q2.up z1).up (Ext.one e2 z2).up) .nil))
      | _ => exact False.elim m1
    · exfalso
      cases ds with
      | nil => exact m1
      | cons a r =>
        cases r with
        | nil => exact z a rfl
        | cons b r => cases a <;> exact m1⟩
theorem zipD_len : ∀ (as bs : List D), (zipD as bs).length = min as.length bs.length
  | [], bs => by simp [zipD]
  | a :: as, [] => by simp [zipD]
  | a :: as, b :: bs => by simp [zipD, zipD_len as bs, Nat.succ_min_succ]
theorem zipD_get : ∀ (as bs : List D) (i : Nat) (a b : D), as[i]? = some a → bs[i]? = some b → (zipD as bs)[i]? = some (.tuple [a, b])
  | [], _, _, _, _, h, _ => by simp at h
  | _ :: _, [], _, _, _, _, h => by simp at h
  | a :: as, b :: bs, 0, _, _, h, h' => by simp at h h'; subst h; subst h'; rfl
  | a :: as, b :: bs, i + 1, c, d, h, h' => by
    have := zipD_get as bs i c d (by simpa using h) (by simpa using h')
    simpa [zipD] using this
theorem vi_zip {tpos : Pos} {elts : List Expr} {kk : Nat} (h : PI X (.Tuple elts kk tpos) e (L2.iZip X.K (tA X.K W E x gA))) : VI X W E x (.Tuple elts kk tpos) e (iZip gA) :=
  h.wk fun σ H RR ⟨F, ρ, s, o, m⟩ => ⟨F, ρ, s, o, (hd_bind m).imp fun ds m1 vs H1 F1 s1 x1 f1 r1 => by
    have no : (∀ as bs, ds ≠ [.list as, .list bs]) → False := fun z => by
      revert m1
      split
      · intro _; exact z _ _ rfl
      · exact id
    rcases two_of r1 with ⟨v, w, d1, d2, rfl, rfl, r, r'⟩ | z
    · cases r with
      | lst h1 h2 =>
        cases r' with
        | lst h3 h4 =>
          rename_i q xs es q' ys es'
          refine ⟨q, q', xs, ys, rfl, sqr_l (sqr_mono f1 h1), sqr_l (sqr_mono f1 h3), m1 _ H1 F1 _ _ s1 x1 f1 (walk_zip (K := X.K) (a := q) (b := q') (xs := xs) (ys := ys) (by rw [zipD_len, h2.len, h4.len])) (fun H2 z => ⟨sqr_l (sqr_mono z h1), sqr_l (sqr_mono z h3)⟩) fun i Ha v Hb Fa hi y z1 z2 => ?_⟩
          obtain ⟨T, y1, y2, e1, e2, e3, e4, e5⟩ := y
          obtain ⟨d, q1, q2⟩ := h2.getV e4
          obtain ⟨d', q1', q2'⟩ := h4.getV e5
          subst e1; subst e3
          refine ⟨_, upd Fa T (.tup [y1, y2]), zipD_get es es' i d d' q1 q1', same_upd e2, Ext.one e2 z2, same_upd2 z2, ?_⟩
          exact .tup (SqT.of upd_same) (.cons ((q2.up z1).up (Ext.one e2 z2).up) (.cons ((q2'.up z1).up (Ext.one e2 z2).up) .nil))
        | _ => exact (no fun _ _ z => by cases z).elim
      | _ => exact (no fun _ _ z => by cases z).elim
    · exact (no fun as bs z' => z _ _ z').elim⟩
end

/-! ### targets -/
inductive Sets (K : PySem.W.Frag) (C : Rc) (F : Hp) (P : Nat → Bool) : L2.St → VEnv → L2.St → VEnv → Prop
  | refl {σ : L2.St} {ρ : VEnv} : Sets K C F P σ ρ σ ρ
  | step {σ σ' : L2.St} {ρ ρ' : VEnv} {i : Nat} {v : V} {d : D} : P i = true → Rp K C F v d → Sets K C F P (σ.set i (some v)) (ρ.set i (some d)) σ' ρ' → Sets K C F P σ ρ σ' ρ'
section
variable {K : PySem.W.Frag} {C : Rc} {F : Hp} {P : Nat → Bool} {W : Vp}
theorem Sets.trans {σ σ' σ2 : L2.St} {ρ ρ' ρ2 : VEnv} (h : Sets K C F P σ ρ σ' ρ') (h' : Sets K C F P σ' ρ' σ2 ρ2) : Sets K C F P σ ρ σ2 ρ2 := by
  induction h with
  | refl => exact h'
  | step a b c ih => exact .step a b (ih h')
theorem set_env {x : List Nat} {H : Hp} {σ : L2.St} {ρ : VEnv} {i : Nat} {v : V} {d : D} (s : Same F H) (o : EnvOk K W x F H σ ρ) (r : Rp K W.rc F v d) : EnvOk K W x F H (σ.set i (some v)) (ρ.set i (some d)) := ⟨by simpa using o.1, fun j e q => by
  have l := o.1
  by_cases h : j = i
  · subst h
    by_cases hl : j < ρ.length
    · rw [List.getElem?_set_self hl] at q
      cases q
      exact ⟨v, List.getElem?_set_self (by omega), r.up s, fun _ => r⟩
    · rw [List.getElem?_eq_none (by simpa using hl)] at q; cases q
  · rw [List.getElem?_set_ne (Ne.symm h)] at q ⊢
    exact o.2 j e q⟩
theorem Sets.env {x : List Nat} {H : Hp} {σ σ' : L2.St} {ρ ρ' : VEnv} (h : Sets K W.rc F P σ ρ σ' ρ') (s : Same F H) (o : EnvOk K W x F H σ ρ) : EnvOk K W x F H σ' ρ' := by
  induction h with
  | refl => exact o
  | step a b c ih => exact ih (set_env s o b)
theorem wipe_get : ∀ (vs : List Nat) (σ : L2.St) (j : Nat), (wipe σ vs)[j]? = if j ∈ vs then (σ[j]?).map (fun _ => none) else σ[j]?
  | [], σ, j => by simp [wipe]
  | v :: vs, σ, j => by
    unfold wipe
    have ih := wipe_get vs σ j
    by_cases h : j = v
    · subst h
      rw [List.getElem?_set]
      simp only [if_true, List.mem_cons, true_or, if_true, wipe_length]
      by_cases hl : j < σ.length
      · rw [if_pos hl, List.getElem?_eq_getElem hl]; rfl
      · rw [if_neg hl, List.getElem?_eq_none (by omega)]; rfl
    · rw [List.getElem?_set_ne (Ne.symm h), ih]
      simp only [List.mem_cons, h, false_or]
theorem wipeE_get : ∀ (vs : List Nat) (ρ : VEnv) (j : Nat), (wipeE ρ vs)[j]? = if j ∈ vs then (ρ[j]?).map (fun _ => none) else ρ[j]?
  | [], ρ, j => by simp [wipeE]
  | v :: vs, ρ, j => by
    unfold wipeE
    have ih := wipeE_get vs ρ j
    by_cases h : j = v
    · subst h
      have hle : (wipeE ρ vs).length = ρ.length := by
        have : ∀ vs : List Nat, (wipeE ρ vs).length = ρ.length := fun vs => by
          induction vs with
          | nil => rfl
          | cons a r ih => unfold wipeE; rw [List.length_set, ih]
        exact this vs
      rw [List.getElem?_set]
      simp only [if_true, List.mem_cons, true_or, if_true, hle]
      by_cases hl : j < ρ.length
      · rw [if_pos hl, List.getElem?_eq_getElem hl]; rfl
      · rw [if_neg hl, List.getElem?_eq_none (by omega)]; rfl
    · rw [List.getElem?_set_ne (Ne.symm h), ih]
      simp only [List.mem_cons, h, false_or]
theorem wipeE_length (ρ : VEnv) : ∀ vs : List Nat, (wipeE ρ vs).length = ρ.length
  | [] => rfl
  | v :: vs => by unfold wipeE; rw [List.length_set, wipeE_length ρ vs]
theorem wipe_env {x : List Nat} {H : Hp} {σ : L2.St} {ρ : VEnv} (vs : List Nat) (o : EnvOk K W x F H σ ρ) : EnvOk K W x F H (wipe σ vs) (wipeE ρ vs) := ⟨by rw [wipe_length, wipeE_length]; exact o.1, fun j d q => by
  rw [wipeE_get] at q
  by_cases h : j ∈ vs
  · rw [if_pos h] at q
    cases z : ρ[j]? with
    | none => rw [z] at q; cases q
    | some y => rw [z] at q; cases q
  · rw [if_neg h] at q
    rw [wipe_get, if_neg h]
    exact o.2 j d q⟩
theorem wipe_set {σ : L2.St} {vs : List Nat} {i : Nat} {v : Option V} (h : i ∈ vs) : wipe (σ.set i v) vs = wipe σ vs := by
  apply List.ext_getElem?
  intro j
  rw [wipe_get, wipe_get]
  by_cases hj : j ∈ vs
  · rw [if_pos hj, if_pos hj, List.getElem?_set]
    by_cases e : i = j
    · subst e
      rw [if_pos rfl]
      by_cases hl : i < σ.length
      · rw [if_pos hl, List.getElem?_eq_getElem hl]; rfl
      · rw [if_neg hl, List.getElem?_eq_none (by omega)]
    · rw [if_neg e]
  · have ne : i ≠ j := fun e => hj (by rw [← e]; exact h)
    rw [if_neg hj, if_neg hj, List.getElem?_set_ne ne]
theorem Sets.wipe {vs : List Nat} {σ σ' : L2.St} {ρ ρ' : VEnv} (h : Sets K C F (fun i => vs.contains i) σ ρ σ' ρ') : wipe σ' vs = wipe σ vs := by
  induction h with
  | refl => rfl
  | step a b c ih => rw [ih, wipe_set (by simpa using a)]
def tG (K : PySem.W.Frag) (W : Vp) (P : Nat → Bool) (g : GF) : L2.TG := fun v σ H Q => ∃ F ρ d ρ', Same F H ∧ Rp K W.rc F v d ∧ g d ρ = .ok ρ' ∧ ∀ σ', Sets K W.rc F P σ ρ σ' ρ' → Q σ' H
def tGs (K : PySem.W.Frag) (W : Vp) (P : Nat → Bool) (g : List D → VEnv → R VEnv) : TGs := fun vs σ H Q => ∃ F ρ ds ρ', Same F H ∧ RpA K W.rc F vs ds ∧ g ds ρ = .ok ρ' ∧ ∀ σ', Sets K W.rc F P σ ρ σ' ρ' → Q σ' H
end
abbrev VG (X : Cx) (W : Vp) (P : Nat → Bool) (tg : Expr) (g : GF) : Prop := PG X tg (tG X.K W P g)
abbrev VGs (X : Cx) (W : Vp) (P : Nat → Bool) (tg : List Expr) (g : List D → VEnv → R VEnv) : Prop := PGs X tg (tGs X.K W P g)
theorem _root_.L2.PGs.wk {X : Cx} {e : List Expr} {t t' : TGs} (h : PGs X e t) (i : ∀ v σ H Q, t' v σ H Q → t v σ H Q) : PGs X e t' := ⟨fun pins s σ H v u Q I r q => h.run pins s σ H v u Q I r (i v σ H Q q)⟩
section
variable {X : Cx} {W : Vp} {P : Nat → Bool} {tg : Expr} {tgs : List Expr} {pos : Pos}
theorem vg_name {i : Nat} (h : PG X tg (gName i)) (hp : P i = true := by rfl) : VG X W P tg (gN i) := h.wk fun v σ H Q ⟨F, ρ, d, ρ', s, r, e, k⟩ => by
  cases e
  exact k _ (.step hp r .refl)
theorem vgs_nil : VGs X W P [] gsN := pgs_nil.wk fun vs σ H Q ⟨F, ρ, ds, ρ', s, r, e, k⟩ => by
  cases r with
  | nil => cases e; exact ⟨rfl, k _ .refl⟩
  | cons _ _ => cases e
theorem vgs_cons {g : GF} {gs : List D → VEnv → R VEnv} (h1 : VG X W P tg g) (h2 : VGs X W P tgs gs) (hs : (assignEach (tg :: tgs) X.env).map (·.2) = assign tg X.env :: (assignEach tgs X.env).map (·.2) := by rfl) : VGs X W P (tg :: tgs) (gsC g gs) :=
  (pgs_cons h1 h2 hs).wk fun vs σ H Q ⟨F, ρ, ds, ρ', s, r, e, k⟩ => by
    cases r with
    | nil => cases e
    | @cons v vs d ds r1 r2 =>
      obtain ⟨ρ1, e1, e2⟩ := R.bind_ok e
      exact ⟨v, vs, rfl, F, ρ, d, ρ1, s, r1, e1, fun σ1 k1 => ⟨F, ρ1, ds, ρ', s, r2, e2, fun σ2 k2 => k σ2 (k1.trans k2)⟩⟩
theorem vg_tup {n k : Nat} {gs : List D → VEnv → R VEnv} (hc : X.calm = true) (h : VGs X W P tgs gs) (hn : (assignEach tgs X.env).length = n := by rfl) (hst : (assignEach tgs X.env).findIdx? (·.1) = none := by rfl) : VG X W P (.Tuple tgs k pos) (gT n gs) :=
  (pg_tup hc h hn hst).wk fun v σ H Q ⟨F, ρ, d, ρ', s, r, e, kk⟩ => by
    cases r with
    | @tup a xs ds h1 h2 =>
      have e : (if ds.length = n then gs ds ρ else .no) = .ok ρ' := e
      by_cases z : ds.length = n
      · rw [if_pos z] at e
        exact ⟨a, xs, rfl, sqt_mono s h1, by rw [h2.len]; exact z, F, ρ, ds, ρ', s, h2, e, kk⟩
      · rw [if_neg z] at e; cases e
    | _ => cases e
end

/-! ### comprehensions -/
abbrev EN : L2.St → XK := fun _ _ _ _ => False
abbrev VTs (X : Cx) (W : Vp) (x : List Nat) (ifs : List Expr) (t : TF) : Prop := PTs X ifs (tT X.K W EN x t)
theorem _root_.L2.PTs.wk {X : Cx} {e : List Expr} {t t' : TT} (h : PTs X e t) (i : ∀ σ H Q, t' σ H Q → t σ H Q) : PTs X e t' := ⟨fun pins s σ H Q I q => h.run pins s σ H Q I (i σ H Q q)⟩
theorem vts_nil {X : Cx} {W : Vp} {x : List Nat} : VTs X W x [] tYe := pts_nil.wk fun σ H Q ⟨F, ρ, s, o, m⟩ => m H (Same.refl H)
theorem vts_one {X : Cx} {W : Vp} {x : List Nat} {c : Expr} {t : TF} (h : VT X W EN x c t) : VTs X W x [c] t := pts_one h
theorem hd_noX {α : Type} {E : XK} {W : Vp} {H H' : Hp} {r : R α} {k : α → Prop} (h : Hd E W H (noX r) k) : Hd (fun _ _ _ => False) W H' r k := by
  cases r with
  | ok a => exact h
  | ex c => exact False.elim h
  | no => exact h
theorem lc_read {K : PySem.W.Frag} {W : Vp} {E : L2.St → XK} {x : List Nat} {gi : AF} {g : GF} {t : TF} {e : EF} {vs : List Nat} (σ : L2.St) (H : Hp) (Q : VK) (h : tN K W E x (eLc gi g t e vs) σ H Q) :
    tLc (tI K W E x gi) (tG K W (fun i => vs.contains i) g) (tT K W EN x t) (tV K W EN x e) vs σ H Q := by
  obtain ⟨F, ρ, s, o, m⟩ := h
  refine ⟨F, ρ, s, o, (hd_bind m).imp fun ds m1 J H1 F1 G Y s1 x1 f1 wk hG hY => ?_⟩
  by_cases hz : ds.length ≤ big
  case neg => rw [if_neg hz] at m1; exact False.elim m1
  rw [if_pos hz] at m1
  have m2 := hd_noX (H' := H) (hd_bind m1)
  intro L hL
  have oW := wipe_env vs (o.mono x1.up s1)
  refine lc_it wk (fun i H2 => ∃ F2 vs2 ds2, Ext F1 H1 F2 ∧ Same F2 H2 ∧ Same H1 H2 ∧ F2 L = none ∧ H2 L = some (.lst vs2) ∧ RpA K W.rc F2 vs2 ds2 ∧ ds2.length ≤ i ∧
    Hd (fun _ _ _ => False) W H (lcGo g t e (wipeE ρ vs) (ds.drop i)) fun rest => NPost K W F H Q (.list (ds2 ++ rest))) ?_ ?_ ?_ ?_
  · exact ⟨F1, [], [], Ext.refl F1 H1, f1.trans (same_upd hL), same_upd hL, none_back f1 hL, upd_same, .nil, Nat.le_refl _, m2.imp fun xs q => q⟩
  · rintro i H2 hi ⟨F2, vs2, ds2, e1, e2, _⟩
    exact hG H2 (e1.up.trans e2)
  · rintro i v Ha Hb hi ⟨F2, vs2, ds2, e1, e2, e3, e4, e5, e6, e7, e8⟩ hy
    obtain ⟨d, F3, q1, q2, q3, q4, q5⟩ := hY i Ha v Hb F2 hi hy e1.up e2
    have dd : ds.drop i = d :: ds.drop (i + 1) := by
      obtain ⟨hlt, rfl⟩ := List.getElem?_eq_some_iff.mp q1
      exact List.drop_eq_getElem_cons hlt
    rw [dd] at e8
    have e9 := hd_bind (show Hd (fun _ _ _ => False) W H ((g d (wipeE ρ vs)).bind fun ρ' => (t ρ').bind fun c => match c with
      | true => (e ρ').bind fun x => (lcGo g t e (wipeE ρ vs) (ds.drop (i + 1))).bind fun xs => .ok (x :: xs)
      | false => lcGo g t e (wipeE ρ vs) (ds.drop (i + 1))) _ from e8)
    cases hgd : g d (wipeE ρ vs) with
    | ex c => rw [hgd] at e9; exact (e9 H (Same.refl H)).elim
    | no => rw [hgd] at e9; exact e9.elim
    | ok ρ' =>
      rw [hgd] at e9
      refine ⟨F3, wipeE ρ vs, d, ρ', q4, q5, hgd, fun σ2 hs => ⟨hs.wipe.trans ?_, ?_⟩⟩
      · apply List.ext_getElem?
        intro j
        rw [wipe_get, wipe_get]
        by_cases hj : j ∈ vs
        · rw [if_pos hj, if_pos hj]
          cases σ[j]? <;> rfl
        · rw [if_neg hj, if_neg hj]
      · have F13 : Same F1 F3 := e1.up.trans q3.up
        have H13 : Same H1 Hb := e3.trans q2
        have o2 : EnvOk K W x F3 Hb σ2 ρ' := hs.env q4 (oW.mono F13 H13)
        have L3 : F3 L = none := q3.out e5 e4
        have e10 := hd_bind (show Hd (fun _ _ _ => False) W H ((t ρ').bind _) _ from e9)
        refine ⟨F3, ρ', q4, o2, (e10.heap (s1.trans H13)).imp fun c e11 Hc sc => ?_⟩
        cases c with
        | false =>
          show ∃ F2 vs2 ds2, _
          exact ⟨F3, vs2, ds2, e1.trans e3 q3, q4.trans sc, H13.trans sc, L3, sc _ _ (q2 _ _ e5), e6.up q3.up, by omega, e11⟩
        | true =>
          show tV K W EN x e σ2 Hc _
          have e12 := hd_bind (show Hd (fun _ _ _ => False) W H ((e ρ').bind _) _ from e11)
          refine ⟨F3, ρ', q4.trans sc, o2.mono (Same.refl F3) sc, (e12.heap ((s1.trans H13).trans sc)).imp fun dv e13 y Hd' F4 sd xd fd rd => ?_⟩
          have L4 : F4 L = none := xd.out (sc _ _ (q2 _ _ e5)) L3
          have e14 := hd_bind e13
          have l2 := e6.len
          refine ⟨vs2, sd _ _ (sc _ _ (q2 _ _ e5)), Nat.lt_of_lt_of_le (by omega) big_le, F4, vs2 ++ [y], ds2 ++ [dv], (e1.trans e3 q3).trans (H13.trans sc) xd, fun a u q => ?_, fun a u q => ?_, L4, upd_same, ((e6.up q3.up).up xd.up).app (.cons rd .nil), by simp; omega, e14.imp fun rest k => ?_⟩
          · rw [upd_ne (fun z => by rw [z, L4] at q; cases q)]
            exact fd a u q
          · rw [upd_ne (ne_of_none q hL)]
            exact sd a u (sc a u (H13 a u q))
          · rw [List.append_assoc]; exact k
  · rintro H2 ⟨F2, vs2, ds2, e1, e2, e3, e4, e5, e6, e7, e8⟩
    rw [List.drop_length] at e8
    have k : NPost K W F H Q (.list (ds2 ++ [])) := e8
    rw [List.append_nil] at k
    exact k L vs2 ds2 H2 F2 rfl (s1.trans e3) (x1.trans s1 e1) e2 (none_back s1 hL) e4 e5 e6
section
variable {X : Cx} {W : Vp} {E : L2.St → XK} {x : List Nat} {elt tg iter : Expr} {ifs : List Expr} {scope : Scope} {own : List (Str × Nat)} {pos : Pos} {gi : AF} {g : GF} {t : TF} {e : EF}
theorem vn_lc (hc : X.calm = true) (hN : X.N.Nodup) (hi : VI X W E x tg iter gi) (ok : BlkOk X.N X.env.scope scope own)
    (hg : ∀ (s : Shared) (H : Hp) (C : Addr) (cl : List (Str × Addr)) (fp : List Addr), VG (X.blk s H scope (compEnvC scope cl C X.env) fp) W (fun i => (own.map (·.2)).contains i) tg g)
    (ht : ∀ (s : Shared) (H : Hp) (C : Addr) (cl : List (Str × Addr)) (fp : List Addr), VTs (X.blk s H scope (compEnvC scope cl C X.env) fp) W x ifs t)
    (he : ∀ (s : Shared) (H : Hp) (C : Addr) (cl : List (Str × Addr)) (fp : List Addr), VE (X.blk s H scope (compEnvC scope cl C X.env) fp) W EN x elt e) (hs : ∀ z, foldedSetIterable iter X.env z = pure z := by intro _; rfl) :
    VN X W E x (.ListComp elt [⟨tg, iter, ifs, 0⟩] scope pos) (eLc gi g t e (own.map (·.2))) := (pe_lc hc hN hi ok hg ht he hs).wk lc_read
end
end Vx

set_option Elab.async false
set_option linter.all false
set_option maxRecDepth 100000
set_option maxHeartbeats 4000000
/-! VW5: statements by data, with lists that a def owns. -/
namespace Vx
open PySem L2

/-- an exception out of a statement: nothing is told of the slots -/
def HdS {α : Type} (E : L2.St → XK) (W : Vp) (H : Hp) (r : R α) (k : α → Prop) : Prop :=
  match r with
  | .ok a => k a
  | .ex c => ∀ σ H', Same H H' → E σ (.ref (W.ea c)) none H'
  | .no => False
section
variable {α β : Type} {E : L2.St → XK} {W : Vp} {H H' : Hp} {r : R α} {k k' : α → Prop}
theorem hds_bind {f : α → R β} {k : β → Prop} (h : HdS E W H (r.bind f) k) : HdS E W H r fun a => HdS E W H (f a) k := by
  cases r with
  | ok a => exact h
  | ex c => exact h
  | no => exact h
theorem HdS.imp (h : HdS E W H r k) (i : ∀ a, k a → k' a) : HdS E W H r k' := by
  cases r with
  | ok a => exact i a h
  | ex c => exact h
  | no => exact h
theorem HdS.imp' (h : HdS E W H r k) (i : ∀ a, r = .ok a → k a → k' a) : HdS E W H r k' := by
  cases r with
  | ok a => exact i a rfl h
  | ex c => exact h
  | no => exact h
theorem HdS.hd (σ : L2.St) (h : HdS E W H r k) (s : Same H H') : Hd (E σ) W H' r k := by
  cases r with
  | ok a => exact h
  | ex c => exact fun H2 z => h σ H2 (s.trans z)
  | no => exact h
end

/-- the slots in o hold lists that nobody else knows; all other slots hold data of the frozen part F -/
structure Stk (K : PySem.W.Frag) (W : Vp) (H0 F0 : Hp) (o : List Nat) (F : Hp) (σ : L2.St) (ρ : VEnv) (H : Hp) : Prop where
  same : Same H0 H
  sub : Same F H
  ext : Ext F0 H0 F
  len : σ.length = ρ.length
  env : ∀ i d, ρ[i]? = some (some d) → ∃ v, σ[i]? = some (some v) ∧ (i ∉ o → Rp K W.rc F v d) ∧ (i ∈ o → ∃ p vs ds, v = .ref p ∧ d = .list ds ∧ H p = some (.lst vs) ∧ H0 p = none ∧ F p = none ∧ RpA K W.rc F vs ds)
  sep : ∀ i j p d e, i ∈ o → j ∈ o → σ[i]? = some (some (.ref p)) → σ[j]? = some (some (.ref p)) → ρ[i]? = some (some d) → ρ[j]? = some (some e) → i = j
section
variable {K : PySem.W.Frag} {W : Vp} {H0 F0 F F' H H' : Hp} {o o' : List Nat} {σ σ' : L2.St} {ρ ρ' : VEnv}
theorem Stk.envOk (k : Stk K W H0 F0 o F σ ρ H) : EnvOk K W o F H σ ρ := ⟨k.len, fun i d q => by
  obtain ⟨v, a, b, c⟩ := k.env i d q
  refine ⟨v, a, ?_, b⟩
  by_cases h : i ∈ o
  · obtain ⟨p, vs, ds, rfl, rfl, e, _, _, r⟩ := c h
    exact .lst (.inl (.inl e)) (r.up k.sub)
  · exact (b h).up k.sub⟩
theorem EnvOk.all {x : List Nat} (o : EnvOk K W x F H σ ρ) : EnvOk K W [] H H σ ρ := ⟨o.1, fun i d q => by
  obtain ⟨v, a, b, _⟩ := o.2 i d q
  exact ⟨v, a, b, fun _ => b⟩⟩
/-- the heap has grown, the frozen part with it -/
theorem Stk.grow (k : Stk K W H0 F0 o F σ ρ H) (s : Same H H') (x : Ext F H F') (f : Same F' H') : Stk K W H0 F0 o F' σ ρ H' where
  same := k.same.trans s
  sub := f
  ext := k.ext.trans k.same x
  len := k.len
  env := fun i d q => by
    obtain ⟨v, a, b, c⟩ := k.env i d q
    refine ⟨v, a, fun h => (b h).up x.up, fun h => ?_⟩
    obtain ⟨p, vs, ds, e1, e2, e3, e4, e5, e6⟩ := c h
    exact ⟨p, vs, ds, e1, e2, s _ _ e3, e4, x.out e3 e5, e6.up x.up⟩
  sep := k.sep
theorem Stk.heap (k : Stk K W H0 F0 o F σ ρ H) (s : Same H H') : Stk K W H0 F0 o F σ ρ H' := k.grow s (Ext.refl F H) (k.sub.trans s)
/-- a list that was owned is frozen -/
theorem Stk.frz1 {i : Nat} (k : Stk K W H0 F0 (i :: o) F σ ρ H) : ∃ F', Stk K W H0 F0 o F' σ ρ H ∧ Same F F' := by
  by_cases hi : i ∈ o
  · refine ⟨F, ⟨k.same, k.sub, k.ext, k.len, fun j d q => ?_, fun a b p d e ha hb => k.sep a b p d e (List.mem_cons_of_mem _ ha) (List.mem_cons_of_mem _ hb)⟩, Same.refl F⟩
    obtain ⟨v, a, b, c⟩ := k.env j d q
    refine ⟨v, a, fun h => b fun z => ?_, fun h => c (List.mem_cons_of_mem _ h)⟩
    rcases List.mem_cons.mp z with rfl | z
    · exact h hi
    · exact h z
  · cases q : ρ[i]? with
    | none =>
      refine ⟨F, ⟨k.same, k.sub, k.ext, k.len, fun j d z => ?_, fun a b p d e ha hb => k.sep a b p d e (List.mem_cons_of_mem _ ha) (List.mem_cons_of_mem _ hb)⟩, Same.refl F⟩
      obtain ⟨v, a, b, c⟩ := k.env j d z
      refine ⟨v, a, fun h => b fun y => ?_, fun h => c (List.mem_cons_of_mem _ h)⟩
      rcases List.mem_cons.mp y with rfl | y
      · rw [q] at z; cases z
      · exact h y
    | some u =>
      cases u with
      | none =>
        refine ⟨F, ⟨k.same, k.sub, k.ext, k.len, fun j d z => ?_, fun a b p d e ha hb => k.sep a b p d e (List.mem_cons_of_mem _ ha) (List.mem_cons_of_mem _ hb)⟩, Same.refl F⟩
        obtain ⟨v, a, b, c⟩ := k.env j d z
        refine ⟨v, a, fun h => b fun y => ?_, fun h => c (List.mem_cons_of_mem _ h)⟩
        rcases List.mem_cons.mp y with rfl | y
        · rw [q] at z; cases z
        · exact h y
      | some d0 =>
        obtain ⟨v0, a0, _, c0⟩ := k.env i d0 q
        obtain ⟨p, vs, ds, rfl, rfl, e3, e4, e5, e6⟩ := c0 List.mem_cons_self
        have s1 : Same F (upd F p (.lst vs)) := same_upd e5
        refine ⟨upd F p (.lst vs), ⟨k.same, fun a u z => ?_, ⟨k.ext.up.trans s1, fun a u z => ?_⟩, k.len, fun j d z => ?_, fun a b p d e ha hb => k.sep a b p d e (List.mem_cons_of_mem _ ha) (List.mem_cons_of_mem _ hb)⟩, s1⟩
        · by_cases y : a = p
          · subst y; rw [upd_same] at z; cases z; exact e3
          · rw [upd_ne y] at z; exact k.sub a u z
        · by_cases y : a = p
          · subst y; exact .inr e4
          · rw [upd_ne y] at z; exact k.ext.new a u z
        · obtain ⟨v, a, b, c⟩ := k.env j d z
          refine ⟨v, a, fun h => ?_, fun h => ?_⟩
          · by_cases y : j = i
            · subst y
              rw [q] at z; cases z
              rw [a0] at a; cases a
              exact .lst (.inl (.inl upd_same)) (e6.up s1)
            · exact (b fun w => by
                rcases List.mem_cons.mp w with rfl | w
                · exact y rfl
                · exact h w).up s1
          · obtain ⟨p2, vs2, ds2, r1, r2, r3, r4, r5, r6⟩ := c (List.mem_cons_of_mem _ h)
            have np : p2 ≠ p := fun y => by
              subst y
              have := k.sep i j p2 _ _ List.mem_cons_self (List.mem_cons_of_mem _ h) a0 (by rw [a, r1]) q z
              subst this
              exact hi h
            exact ⟨p2, vs2, ds2, r1, r2, r3, r4, by rw [upd_ne np]; exact r5, r6.up s1⟩
/-- order and repetition do not count -/
theorem Stk.perm (k : Stk K W H0 F0 o F σ ρ H) (h : ∀ i, i ∈ o ↔ i ∈ o') : Stk K W H0 F0 o' F σ ρ H where
  same := k.same
  sub := k.sub
  ext := k.ext
  len := k.len
  env := fun i d q => by
    obtain ⟨v, a, b, c⟩ := k.env i d q
    exact ⟨v, a, fun z => b fun y => z ((h i).mp y), fun z => c ((h i).mpr z)⟩
  sep := fun i j p d e hi hj => k.sep i j p d e ((h i).mpr hi) ((h j).mpr hj)
theorem Stk.frz : ∀ (l : List Nat) {F : Hp}, Stk K W H0 F0 (l ++ o) F σ ρ H → ∃ F', Stk K W H0 F0 o F' σ ρ H ∧ Same F F'
  | [], F, k => ⟨F, k, Same.refl F⟩
  | i :: l, F, k => by
    obtain ⟨F1, k1, s1⟩ := Stk.frz1 (o := l ++ o) k
    obtain ⟨F2, k2, s2⟩ := Stk.frz l k1
    exact ⟨F2, k2, s1.trans s2⟩
/-- fewer lists are owned -/
theorem Stk.less (k : Stk K W H0 F0 o F σ ρ H) (h : ∀ i ∈ o', i ∈ o) : ∃ F', Stk K W H0 F0 o' F' σ ρ H ∧ Same F F' :=
  Stk.frz o (k.perm fun i => ⟨fun z => List.mem_append_left _ z, fun z => (List.mem_append.mp z).elim id (h i)⟩)
/-- a slot that is not owned is set -/
theorem Stk.set {i : Nat} {v : V} {d : D} (k : Stk K W H0 F0 o F σ ρ H) (hi : i ∉ o) (r : Rp K W.rc F v d) : Stk K W H0 F0 o F (σ.set i (some v)) (ρ.set i (some d)) H where
  same := k.same
  sub := k.sub
  ext := k.ext
  len := by simpa using k.len
  env := fun j e q => by
    by_cases h : j = i
    · subst h
      by_cases hl : j < ρ.length
      · rw [List.getElem?_set_self hl] at q
        cases q
        exact ⟨v, List.getElem?_set_self (by rw [k.len]; exact hl), fun _ => r, fun z => (hi z).elim⟩
      · rw [List.getElem?_eq_none (by simpa using hl)] at q; cases q
    · rw [List.getElem?_set_ne (Ne.symm h)] at q ⊢
      exact k.env j e q
  sep := fun a b p d e ha hb h1 h2 h3 h4 => by
    have na : i ≠ a := fun z => hi (by rw [z]; exact ha)
    have nb : i ≠ b := fun z => hi (by rw [z]; exact hb)
    rw [List.getElem?_set_ne na] at h1 h3
    rw [List.getElem?_set_ne nb] at h2 h4
    exact k.sep a b p d e ha hb h1 h2 h3 h4
theorem Stk.sets {P : Nat → Bool} (h : Sets K W.rc F P σ ρ σ' ρ') (hp : ∀ i, P i = true → i ∉ o) (k : Stk K W H0 F0 o F σ ρ H) : Stk K W H0 F0 o F σ' ρ' H := by
  induction h with
  | refl => exact k
  | step a b c ih => exact ih (k.set (hp _ a) b)
/-- a slot gets a new list -/
theorem Stk.setN {i : Nat} {p : Addr} {vs : List V} {ds : List D} (k : Stk K W H0 F0 o F σ ρ H) (hi : i ∉ o) (h1 : H p = some (.lst vs)) (h0 : H0 p = none) (hf : F p = none) (r : RpA K W.rc F vs ds)
    (hn : ∀ (j : Nat) (d : D), j ∈ o → ρ[j]? = some (some d) → σ[j]? ≠ some (some (.ref p))) : Stk K W H0 F0 (i :: o) F (σ.set i (some (.ref p))) (ρ.set i (some (.list ds))) H where
  same := k.same
  sub := k.sub
  ext := k.ext
  len := by simpa using k.len
  env := fun j e q => by
    by_cases h : j = i
    · subst h
      by_cases hl : j < ρ.length
      · rw [List.getElem?_set_self hl] at q
        cases q
        exact ⟨.ref p, List.getElem?_set_self (by rw [k.len]; exact hl), fun z => (z List.mem_cons_self).elim, fun _ => ⟨p, vs, ds, rfl, rfl, h1, h0, hf, r⟩⟩
      · rw [List.getElem?_eq_none (by simpa using hl)] at q; cases q
    · rw [List.getElem?_set_ne (Ne.symm h)] at q ⊢
      obtain ⟨v, a, b, c⟩ := k.env j e q
      exact ⟨v, a, fun z => b fun y => z (List.mem_cons_of_mem _ y), fun z => c ((List.mem_cons.mp z).resolve_left h)⟩
  sep := fun a b q d e ha hb z1 z2 z3 z4 => by
    by_cases ea : a = i
    · by_cases eb : b = i
      · rw [ea, eb]
      · subst ea
        have hb' := (List.mem_cons.mp hb).resolve_left eb
        rw [List.getElem?_set_ne (Ne.symm eb)] at z2 z4
        have z1' : some (V.ref p) = some (V.ref q) := by
          by_cases hl : a < σ.length
          · rw [List.getElem?_set_self hl] at z1; exact Option.some.inj z1
          · rw [List.getElem?_eq_none (by simpa using hl)] at z1; cases z1
        cases z1'
        exact (hn b e hb' z4 z2).elim
    · have ha' := (List.mem_cons.mp ha).resolve_left ea
      by_cases eb : b = i
      · subst eb
        rw [List.getElem?_set_ne (Ne.symm ea)] at z1 z3
        have z2' : some (V.ref p) = some (V.ref q) := by
          by_cases hl : b < σ.length
          · rw [List.getElem?_set_self hl] at z2; exact Option.some.inj z2
          · rw [List.getElem?_eq_none (by simpa using hl)] at z2; cases z2
        cases z2'
        exact (hn a d ha' z3 z1).elim
      · have hb' := (List.mem_cons.mp hb).resolve_left eb
        rw [List.getElem?_set_ne (Ne.symm ea)] at z1 z3
        rw [List.getElem?_set_ne (Ne.symm eb)] at z2 z4
        exact k.sep a b q d e ha' hb' z1 z2 z3 z4
/-- an owned list is changed -/
theorem Stk.mut {i : Nat} {p : Addr} {vs vs' : List V} {ds ds' : List D} (k : Stk K W H0 F0 o F σ ρ H) (hi : i ∈ o) (hs : σ[i]? = some (some (.ref p))) (hr : ρ[i]? = some (some (.list ds))) (h1 : H p = some (.lst vs)) (r : RpA K W.rc F vs' ds') :
    Stk K W H0 F0 o F σ (ρ.set i (some (.list ds'))) (upd H p (.lst vs')) := by
  obtain ⟨v, a, _, c⟩ := k.env i _ hr
  obtain ⟨p', vs0, ds0, e1, e2, e3, e4, e5, e6⟩ := c hi
  rw [hs] at a; cases a
  cases e1
  have hil : i < ρ.length := (List.getElem?_eq_some_iff.mp hr).1
  refine ⟨fun b u z => ?_, fun b u z => ?_, k.ext, by simpa using k.len, fun j e q => ?_, fun a b q d e ha hb z1 z2 z3 z4 => ?_⟩
  · rw [upd_ne (ne_of_none z e4)]; exact k.same b u z
  · rw [upd_ne (ne_of_none z e5)]; exact k.sub b u z
  · by_cases h : j = i
    · subst h
      rw [List.getElem?_set_self hil] at q
      cases q
      exact ⟨.ref p, hs, fun z => (z hi).elim, fun _ => ⟨p, vs', ds', rfl, rfl, upd_same, e4, e5, r⟩⟩
    · rw [List.getElem?_set_ne (Ne.symm h)] at q
      obtain ⟨v, a, b, c⟩ := k.env j e q
      refine ⟨v, a, b, fun z => ?_⟩
      obtain ⟨p2, vs2, ds2, r1, r2, r3, r4, r5, r6⟩ := c z
      have np : p2 ≠ p := fun y => by
        subst y
        exact h (k.sep j i p2 _ _ z hi (by rw [a, r1]) hs q hr)
      exact ⟨p2, vs2, ds2, r1, r2, by rw [upd_ne np]; exact r3, r4, r5, r6⟩
  · have get : ∀ (j : Nat) (d : D), (ρ.set i (some (.list ds')))[j]? = some (some d) → ∃ d', ρ[j]? = some (some d') := fun j d z => by
      by_cases y : j = i
      · subst y; exact ⟨_, hr⟩
      · rw [List.getElem?_set_ne (Ne.symm y)] at z; exact ⟨_, z⟩
    obtain ⟨d3, z3⟩ := get a d z3
    obtain ⟨d4, z4⟩ := get b e z4
    exact k.sep a b q d3 d4 ha hb z1 z2 z3 z4
/-- forgetting a slot's claim to be owned when it is overwritten -/
theorem Stk.unset {i : Nat} (k : Stk K W H0 F0 o F σ ρ H) : Stk K W H0 F0 (o.filter (· ≠ i)) F σ (ρ.set i none) H where
  same := k.same
  sub := k.sub
  ext := k.ext
  len := by simpa using k.len
  env := fun j e q => by
    by_cases h : j = i
    · subst h
      by_cases hl : j < ρ.length
      · rw [List.getElem?_set_self hl] at q; cases q
      · rw [List.getElem?_eq_none (by simpa using hl)] at q; cases q
    · rw [List.getElem?_set_ne (Ne.symm h)] at q
      obtain ⟨v, a, b, c⟩ := k.env j e q
      exact ⟨v, a, fun z => b fun y => z (List.mem_filter.mpr ⟨y, by simpa using h⟩), fun z => c (List.mem_filter.mp z).1⟩
  sep := fun a b p d e ha hb h1 h2 h3 h4 => by
    have ha' := List.mem_filter.mp ha
    have hb' := List.mem_filter.mp hb
    have na : i ≠ a := fun z => by have := ha'.2; simp [z] at this
    have nb : i ≠ b := fun z => by have := hb'.2; simp [z] at this
    rw [List.getElem?_set_ne na] at h3
    rw [List.getElem?_set_ne nb] at h4
    exact k.sep a b p d e ha'.1 hb'.1 h1 h2 h3 h4
end
end Vx

set_option Elab.async false
set_option linter.all false
set_option maxRecDepth 100000
set_option maxHeartbeats 4000000
/-! VW6: the statements' rules. -/
namespace Vx
open PySem L2

def SPost (K : PySem.W.Frag) (W : Vp) (H0 F0 : Hp) (o' ol : List Nat) (De : Ends) : Out → Prop
  | .nx ρ' => ∀ σ' H' F', Stk K W H0 F0 o' F' σ' ρ' H' → De.nx σ' H'
  | .rt d => ∀ v H' F', Same H0 H' → Ext F0 H0 F' → Same F' H' → Rp K W.rc F' v d → De.rt v H'
  | .bk ρ' => ∀ σ' H' F', Stk K W H0 F0 ol F' σ' ρ' H' → De.bk σ' H'
  | .ct ρ' => ∀ σ' H' F', Stk K W H0 F0 ol F' σ' ρ' H' → De.ct σ' H'
def tS (K : PySem.W.Frag) (W : Vp) (E : L2.St → XK) (o o' ol : List Nat) (f : SF) : TS := fun De σ H => ∃ H0 F0 F ρ, Stk K W H0 F0 o F σ ρ H ∧ HdS E W H0 (f ρ) (SPost K W H0 F0 o' ol De)
abbrev VS (X : Cx) (W : Vp) (E : L2.St → XK) (o o' ol : List Nat) (st : Stmt) (f : SF) : Prop := PS X st (tS X.K W E o o' ol f)
abbrev VSs (X : Cx) (W : Vp) (E : L2.St → XK) (o o' ol : List Nat) (st : List Stmt) (f : SF) : Prop := PSs X st (tS X.K W E o o' ol f)
theorem hds_ok {α β : Type} {E : L2.St → XK} {W : Vp} {H : Hp} {r : R α} {f : α → R β} {k : β → Prop} (h : HdS E W H ((noX r).bind f) k) : ∃ a, r = .ok a ∧ HdS E W H (f a) k := by
  cases r with
  | ok a => exact ⟨a, rfl, h⟩
  | ex c => exact False.elim h
  | no => exact False.elim h
section
variable {X : Cx} {W : Vp} {E : L2.St → XK} {o o1 o' ol x : List Nat} {st : Stmt} {sts : List Stmt} {f f' fa fb : SF} {g gk ge : EF} {t : TF} {i : Nat} {e c : Expr} {pos : Pos}

theorem vss_nil : VSs X W E o o ol [] sNop := pss_nil.wk fun De σ H ⟨H0, F0, F, ρ, k, m⟩ => m σ H F k
theorem vss_cons (h1 : VS X W E o o1 ol st f) (h2 : VSs X W E o1 o' ol sts f') : VSs X W E o o' ol (st :: sts) (sSeq f f') := (pss_cons h1 h2).wk fun De σ H ⟨H0, F0, F, ρ, k, m⟩ =>
  ⟨H0, F0, F, ρ, k, (hds_bind m).imp fun r q => by
    cases r with
    | nx ρ' => exact fun σ1 H1 F1 k1 => ⟨H0, F0, F1, ρ', k1, q⟩
    | rt d => exact q
    | bk ρ' => exact q
    | ct ρ' => exact q⟩
theorem vss_one (h1 : VS X W E o o' ol st f) : VSs X W E o o' ol [st] f := pss_one h1
theorem vs_less (h : VS X W E o o1 ol st f) (z : ∀ j ∈ o', j ∈ o1 := by decide) : VS X W E o o' ol st f := h.wk fun De σ H ⟨H0, F0, F, ρ, k, m⟩ =>
  ⟨H0, F0, F, ρ, k, m.imp fun r q => by
    cases r with
    | nx ρ' =>
      intro σ1 H1 F1 k1
      obtain ⟨F2, k2, _⟩ := k1.less z
      exact q σ1 H1 F2 k2
    | rt d => exact q
    | bk ρ' => exact q
    | ct ρ' => exact q⟩
theorem vss_less (h : VSs X W E o o1 ol sts f) (z : ∀ j ∈ o', j ∈ o1 := by decide) : VSs X W E o o' ol sts f := h.wk fun De σ H ⟨H0, F0, F, ρ, k, m⟩ =>
  ⟨H0, F0, F, ρ, k, m.imp fun r q => by
    cases r with
    | nx ρ' =>
      intro σ1 H1 F1 k1
      obtain ⟨F2, k2, _⟩ := k1.less z
      exact q σ1 H1 F2 k2
    | rt d => exact q
    | bk ρ' => exact q
    | ct ρ' => exact q⟩
theorem vss_pre (h : VSs X W E o1 o' ol sts f) (z : ∀ j ∈ o1, j ∈ o := by decide) : VSs X W E o o' ol sts f := h.wk fun De σ H ⟨H0, F0, F, ρ, k, m⟩ => by
  obtain ⟨F2, k2, _⟩ := k.less z
  exact ⟨H0, F0, F2, ρ, k2, m⟩

/-! ### assignments -/
theorem vs_set (h : PS X st (tAsg (tV X.K W E x g) (gName i))) (hx : ∀ j ∈ x, j ∈ o := by decide) : VS X W E o (x.filter (· ≠ i)) ol st (sSet i g) := h.wk fun De σ H ⟨H0, F0, F, ρ, k, m⟩ => by
  obtain ⟨F1, k1, s1⟩ := k.less hx
  refine ⟨F1, ρ, k1.sub, k1.envOk, ((hds_bind m).hd σ k1.same).imp fun d q v H2 F2 s2 x2 f2 r2 => ?_⟩
  have k2 := ((k1.grow s2 x2 f2).unset (i := i)).set (i := i) (v := v) (d := d) (by simp) r2
  rw [List.set_set] at k2
  exact q (σ.set i (some v)) H2 F2 k2
theorem vs_setS (h : PS X st (tAsg (tV X.K W E [] g) (gName i))) : VS X W E o (o.filter (· ≠ i)) ol st (sSet i (scG g)) := h.wk fun De σ H ⟨H0, F0, F, ρ, k, m⟩ => by
  refine ⟨H, ρ, Same.refl H, k.envOk.all, (hds_bind (hds_bind m)).hd σ k.same |>.imp fun d q v H2 F2 s2 x2 f2 r2 => ?_⟩
  by_cases z : scD d = true
  · rw [if_pos z] at q
    have k2 := ((k.heap s2).unset (i := i)).set (i := i) (v := v) (d := d) (by simp) (sc_rp r2 z)
    rw [List.set_set] at k2
    exact q (σ.set i (some v)) H2 F k2
  · rw [if_neg z] at q; exact False.elim q
theorem vs_setN (h : PS X st (tAsg (tN X.K W E x g) (gName i))) (hx : ∀ j ∈ x, j ∈ o := by decide) : VS X W E o (i :: x.filter (· ≠ i)) ol st (sSet i g) := h.wk fun De σ H ⟨H0, F0, F, ρ, k, m⟩ => by
  obtain ⟨F1, k1, s1⟩ := k.less hx
  refine ⟨F1, ρ, k1.sub, k1.envOk, ((hds_bind m).hd σ k1.same).imp fun d q p vs ds H2 F2 e s2 x2 f2 n2 nf l2 r2 => ?_⟩
  subst e
  have k2 := (k1.grow s2 x2 f2).unset (i := i)
  have k3 := k2.setN (i := i) (p := p) (by simp) l2 (none_back k1.same n2) nf r2 (fun j d hj hd hs => by
    have hj' := List.mem_filter.mp hj
    have ne : i ≠ j := fun z => by have := hj'.2; simp [z] at this
    rw [List.getElem?_set_ne ne] at hd
    obtain ⟨v, a, _, c⟩ := k1.env j d hd
    obtain ⟨p', vs', ds', e1, _, e3, _⟩ := c hj'.1
    rw [a, e1] at hs; cases hs
    rw [n2] at e3; cases e3)
  rw [List.set_set] at k3
  exact q _ H2 F2 k3
/-- a comprehension to a name -/
theorem vs_setLc {wi : TI} {gt : L2.TG} {tt : TT} {te : TE} {vs : List Nat} (h : PS X st (tAsg (tLc wi gt tt te vs) (gName i))) (hr : ∀ σ H Q, tN X.K W E x g σ H Q → tLc wi gt tt te vs σ H Q) (hx : ∀ j ∈ x, j ∈ o := by decide) : VS X W E o (i :: x.filter (· ≠ i)) ol st (sSet i g) :=
  vs_setN (h.wk fun De σ H q => hr σ H _ q) hx
/-- a tuple's parts to names -/
theorem vs_asg {gt : GF} (h : PS X st (tAsg (tV X.K W E x g) (tG X.K W (fun j => !x.contains j) gt))) (hx : ∀ j ∈ x, j ∈ o := by decide) : VS X W E o x ol st (sAsg gt g) := h.wk fun De σ H ⟨H0, F0, F, ρ, k, m⟩ => by
  obtain ⟨F1, k1, s1⟩ := k.less hx
  refine ⟨F1, ρ, k1.sub, k1.envOk, ((hds_bind m).hd σ k1.same).imp fun d q v H2 F2 s2 x2 f2 r2 => ?_⟩
  obtain ⟨ρ', e, q⟩ := hds_ok q
  exact ⟨F2, ρ, d, ρ', f2, r2, e, fun σ' hs => q σ' H2 F2 (Stk.sets hs (fun j hj => by simpa using hj) (k1.grow s2 x2 f2))⟩
theorem vs_do (h : PS X st (tDrop (tV X.K W E [] g))) : VS X W E o o ol st (sDo g) := h.wk fun De σ H ⟨H0, F0, F, ρ, k, m⟩ =>
  ⟨H, ρ, Same.refl H, k.envOk.all, ((hds_bind m).hd σ k.same).imp fun d q v H2 F2 s2 x2 f2 r2 => q σ H2 F (k.heap s2)⟩
theorem vs_ret (h : PS X st (tRet (tV X.K W E [] g))) : VS X W E o o' ol st (sRet g) := h.wk fun De σ H ⟨H0, F0, F, ρ, k, m⟩ => by
  obtain ⟨F1, k1, s1⟩ := k.less (o' := []) (fun _ z => by cases z)
  exact ⟨F1, ρ, k1.sub, k1.envOk, ((hds_bind m).hd σ k1.same).imp fun d q v H2 F2 s2 x2 f2 r2 => q v H2 F2 (k1.same.trans s2) (k1.ext.trans k1.same x2) f2 r2⟩
theorem vs_retN (h : PS X st tRetN) : VS X W E o o' ol st (sRet (eC .none)) := h.wk fun De σ H ⟨H0, F0, F, ρ, k, m⟩ => m .non H F k.same k.ext k.sub .non
theorem vs_if {a b : List Stmt} (hc : VT X W E [] c t) (ha : VSs X W E o o' ol a fa) (hb : VSs X W E o o' ol b fb) : VS X W E o o' ol (.If c a b pos) (sIf t fa fb) := (ps_if hc ha hb).wk fun De σ H ⟨H0, F0, F, ρ, k, m⟩ =>
  ⟨H, ρ, Same.refl H, k.envOk.all, ((hds_bind m).hd σ k.same).imp fun d q H2 s2 => by
    cases d with
    | true => exact ⟨H0, F0, F, ρ, k.heap s2, q⟩
    | false => exact ⟨H0, F0, F, ρ, k.heap s2, q⟩⟩
theorem vs_pass (h : PS X st tNext) : VS X W E o o ol st sNop := h.wk fun De σ H ⟨H0, F0, F, ρ, k, m⟩ => m σ H F k
theorem vs_brk (h : PS X st tBreak) : VS X W E ol o' ol st sBrk := h.wk fun De σ H ⟨H0, F0, F, ρ, k, m⟩ => m σ H F k
theorem vs_cnt (h : PS X st tCont) : VS X W E ol o' ol st sCnt := h.wk fun De σ H ⟨H0, F0, F, ρ, k, m⟩ => m σ H F k
theorem vs_raise {n : Nat} (h : PS X st (fun _ σ H => E σ (.ref (W.ea n)) none H)) : VS X W E o o' ol st (sRai n) := h.wk fun De σ H ⟨H0, F0, F, ρ, k, m⟩ => m σ H k.same
theorem vss_bk (h : VSs X W E ol o' ol sts f) (z : ∀ j ∈ ol, j ∈ o := by decide) : VSs X W E o o' ol sts f := vss_pre h z

/-! ### lists that are changed -/
theorem look_ok {ρ : VEnv} {i : Nat} {d : D} (h : look ρ i = .ok d) : ρ[i]? = some (some d) := by
  unfold look at h
  cases q : ρ[i]? with
  | none => rw [q] at h; cases h
  | some z =>
    cases z with
    | none => rw [q] at h; cases h
    | some d' => rw [q] at h; cases h; rfl
theorem vs_app (h : PS X st (tDrop (tBM X.K "list" rAppend (tVar i) (tCons (tV X.K W E x g) tNil)))) (hx : ∀ j ∈ x, j ∈ o := by decide) (hi : i ∈ x := by decide) : VS X W E o x ol st (sApp i g) := h.wk fun De σ H ⟨H0, F0, F, ρ, k, m⟩ => by
  obtain ⟨F1, k1, s1⟩ := k.less hx
  unfold sApp at m
  cases hl : look ρ i with
  | ex c => simp only [hl] at m; exact False.elim m
  | no => simp only [hl] at m; exact False.elim m
  | ok d0 =>
    cases d0 with
    | list ds =>
      simp only [hl] at m
      have hr := look_ok hl
      obtain ⟨v, a, _, c⟩ := k1.env i _ hr
      obtain ⟨p, vs, ds', e1, e2, e3, e4, e5, e6⟩ := c hi
      cases e2; subst e1
      refine ⟨.ref p, a, .inl ⟨rfl, vs, SqL.of e3⟩, F1, ρ, k1.sub, k1.envOk, ((hds_bind m).hd σ k1.same).imp fun d q y H2 F2 s2 x2 f2 r2 => ?_⟩
      by_cases z : ds.length < big
      · rw [if_pos z] at q
        refine ⟨p, vs, y, rfl, rfl, s2 _ _ e3, by rw [e6.len]; exact Nat.lt_of_lt_of_le z big_le, ?_⟩
        exact q σ _ F2 ((k1.grow s2 x2 f2).mut hi a hr (s2 _ _ e3) ((e6.up x2.up).app (.cons r2 .nil)))
      · rw [if_neg z] at q; exact False.elim q
    | _ => simp only [hl] at m; exact False.elim m
theorem ixAt_N (n : Nat) (i : Int) : ixN n i = ixAt n i := rfl
theorem vs_put (h : PS X st (tAsg (tV X.K W E x ge) (gSub (tVar i) (tV X.K W E [] gk) rSetL))) (hx : ∀ j ∈ x, j ∈ o := by decide) (hi : i ∈ x := by decide) : VS X W E o x ol st (sPut i gk ge) := h.wk fun De σ H ⟨H0, F0, F, ρ, k, m⟩ => by
  obtain ⟨F1, k1, s1⟩ := k.less hx
  refine ⟨F1, ρ, k1.sub, k1.envOk, ((hds_bind m).hd σ k1.same).imp fun d q y H2 F2 s2 x2 f2 r2 => ?_⟩
  have k2 := k1.grow s2 x2 f2
  cases hl : look ρ i with
  | ex c => simp only [hl] at q; exact False.elim q
  | no => simp only [hl] at q; exact False.elim q
  | ok d0 =>
    cases d0 with
    | list ds =>
      simp only [hl] at q
      have hr := look_ok hl
      obtain ⟨v, a, _, c⟩ := k2.env i _ hr
      obtain ⟨p, vs, ds', e1, e2, e3, e4, e5, e6⟩ := c hi
      cases e2; subst e1
      refine ⟨.ref p, a, H2, ρ, Same.refl H2, k2.envOk.all, ((hds_bind q).hd σ k2.same).imp fun kd q w H3 F3 s3 x3 f3 r3 => ?_⟩
      cases r3 with
      | int j =>
        have q : HdS E W H0 (match ixAt ds.length j with
          | some n => R.ok (Out.nx (ρ.set i (some (.list (ds.set n d)))))
          | none => .no) _ := q
        cases hn : ixAt ds.length j with
        | none => rw [hn] at q; exact False.elim q
        | some n =>
          rw [hn] at q
          have k3 := k2.heap s3
          have e3' := s3 _ _ e3
          refine ⟨p, vs, j, n, rfl, rfl, e3', by rw [ixAt_N, e6.len]; exact hn, ?_⟩
          exact q σ _ F2 (k3.mut hi a hr e3' (e6.set r2 n))
      | _ => exact False.elim q
    | _ => simp only [hl] at q; exact False.elim q

/-! ### loops -/
theorem Stk.base {K : PySem.W.Frag} {H0 F0 F H : Hp} {σ : L2.St} {ρ : VEnv} (k : Stk K W H0 F0 o F σ ρ H) : Stk K W H0 F o F σ ρ H := ⟨k.same, k.sub, Ext.refl F H0, k.len, k.env, k.sep⟩
theorem Ext.two {F0 H0 F F' : Hp} (a : Ext F0 H0 F) (b : Ext F H0 F') : Ext F0 H0 F' := a.trans (Same.refl H0) b
theorem Stk.unbase {K : PySem.W.Frag} {H0 F0 F F' H : Hp} {σ : L2.St} {ρ : VEnv} (a : Ext F0 H0 F) (k : Stk K W H0 F o F' σ ρ H) : Stk K W H0 F0 o F' σ ρ H := ⟨k.same, k.sub, a.two k.ext, k.len, k.env, k.sep⟩
theorem vs_for {tg iter : Expr} {body : List Stmt} {gi : AF} {gt : GF} {b : SF} (hp : PassesOwn (model X.prog X.w) X.A X.env X.xe) (hc : X.calm = true) (hi : VI X W E x tg iter gi) (hg : VG X W (fun j => !x.contains j) tg gt) (hb : VSs X W E x x x body b)
    (hx : ∀ j ∈ x, j ∈ o := by decide) (hs : ∀ z, foldedSetIterable iter X.env z = pure z := by intro _; rfl) : VS X W E o x ol (.For tg iter body [] pos) (sFor gi gt b) := (ps_for hp hc hi hg hb hs).wk fun De σ H ⟨H0, F0, F, ρ, k, m⟩ => by
  obtain ⟨F1, k1, s1⟩ := k.less hx
  refine ⟨F1, ρ, k1.sub, k1.envOk, ((hds_bind m).hd σ k1.same).imp fun ds q J H2 F2 G Y s2 x2 f2 wk hG hY => ?_⟩
  by_cases hz : ds.length ≤ big
  case neg => rw [if_neg hz] at q; exact False.elim q
  rw [if_pos hz] at q
  have k2 := k1.grow s2 x2 f2
  have xx : Ext F0 H0 F2 := k2.ext
  refine for_it wk (fun n σ' H' => ∃ F' ρ', Stk X.K W H0 F2 x F' σ' ρ' H' ∧ HdS E W H0 (forGo gt b (ds.drop n) ρ') (SPost X.K W H0 F0 x ol De)) ⟨F2, ρ, k2.base, q⟩ ?_ ?_ ?_
  · rintro n σ' H' hn ⟨F', ρ', k', _⟩
    exact hG H' (k'.ext.up.trans k'.sub)
  · rintro n v σ' H3 H4 hn ⟨F', ρ', k', q'⟩ hy
    obtain ⟨d, F3, q1, q2, q3, q4, q5⟩ := hY n H3 v H4 F' hn hy k'.ext.up k'.sub
    have dd : ds.drop n = d :: ds.drop (n + 1) := by
      obtain ⟨hlt, rfl⟩ := List.getElem?_eq_some_iff.mp q1
      exact List.drop_eq_getElem_cons hlt
    rw [dd] at q'
    obtain ⟨ρ1, e1, q6⟩ := hds_ok (show HdS E W H0 ((noX (gt d ρ')).bind fun ρ' => (b ρ').bind fun r => match r with
      | .nx ρ2 => forGo gt b (ds.drop (n + 1)) ρ2
      | .ct ρ2 => forGo gt b (ds.drop (n + 1)) ρ2
      | .bk ρ2 => .ok (.nx ρ2)
      | .rt v => .ok (.rt v)) _ from q')
    have k3 := k'.grow q2 q3 q4
    refine ⟨F3, ρ', d, ρ1, q4, q5, e1, fun σ1 hs1 => ⟨H0, F2, F3, ρ1, Stk.sets hs1 (fun j hj => by simpa using hj) k3, (hds_bind q6).imp fun r q7 => ?_⟩⟩
    cases r with
    | nx ρ2 => exact fun σ2 H5 F4 k4 => ⟨F4, ρ2, k4, q7⟩
    | ct ρ2 => exact fun σ2 H5 F4 k4 => ⟨F4, ρ2, k4, q7⟩
    | bk ρ2 => exact fun σ2 H5 F4 k4 => q7 σ2 H5 F4 (k4.unbase xx)
    | rt v => exact fun w H5 F4 z1 z2 z3 z4 => q7 w H5 F4 z1 (xx.two z2) z3 z4
  · rintro σ' H' ⟨F', ρ', k', q'⟩
    rw [List.drop_length] at q'
    exact q' σ' H' F' (k'.unbase xx)
theorem vs_while {body : List Stmt} {n : VEnv → Nat} {b : SF} (hp : PassesOwn (model X.prog X.w) X.A X.env X.xe) (hc : VT X W E [] c t) (hb : VSs X W E x x x body b) (hx : ∀ j ∈ x, j ∈ o := by decide) : VS X W E o x ol (.While c body [] pos) (sWhile n t b) :=
  (ps_while hp hc hb).wk fun De σ H ⟨H0, F0, F, ρ, k, m⟩ => by
  obtain ⟨F1, k1, s1⟩ := k.less hx
  refine ⟨fun j σ' H' => ∃ F' ρ', Stk X.K W H0 F0 x F' σ' ρ' H' ∧ HdS E W H0 (whileGo t b j ρ') (SPost X.K W H0 F0 x ol De), ⟨n ρ, F1, ρ, k1, m⟩, ?_⟩
  rintro j σ' H' ⟨F', ρ', k', q'⟩
  cases j with
  | zero => exact False.elim q'
  | succ j =>
    have q1 := hds_bind (show HdS E W H0 ((t ρ').bind fun c => match c with
      | false => .ok (.nx ρ')
      | true => (b ρ').bind fun r => match r with
        | .nx ρ2 => whileGo t b j ρ2
        | .ct ρ2 => whileGo t b j ρ2
        | .bk ρ2 => .ok (.nx ρ2)
        | .rt v => .ok (.rt v)) _ from q')
    refine ⟨H', ρ', Same.refl H', k'.envOk.all, (q1.hd σ' k'.same).imp fun d q H2 s2 => ?_⟩
    cases d with
    | false => exact q σ' H2 F' (k'.heap s2)
    | true =>
      refine ⟨fun σ2 H3 => ∃ F2 ρ2, Stk X.K W H0 F0 x F2 σ2 ρ2 H3 ∧ HdS E W H0 (whileGo t b j ρ2) (SPost X.K W H0 F0 x ol De), fun σ2 H3 z => ⟨j, Nat.lt_succ_self j, z⟩, H0, F0, F', ρ', k'.heap s2, (hds_bind q).imp fun r q7 => ?_⟩
      cases r with
      | nx ρ2 => exact fun σ2 H5 F4 k4 => ⟨F4, ρ2, k4, q7⟩
      | ct ρ2 => exact fun σ2 H5 F4 k4 => ⟨F4, ρ2, k4, q7⟩
      | bk ρ2 => exact fun σ2 H5 F4 k4 => q7 σ2 H5 F4 k4
      | rt v => exact q7
end
end Vx

set_option Elab.async false
set_option linter.all false
set_option maxRecDepth 100000
set_option maxHeartbeats 4000000
/-! VW7: defs by their bodies, calls; the guards are told, so that repr may be called. -/
namespace Vx
open PySem L2 PyProof.Rows

/-- room for k calls, and no guard is up -/
structure Rm (k : Nat) (A : Around) : Prop where
  room : Room k A
  gds : A.guards = some []
theorem Rm.mono {j k : Nat} {A : Around} (r : Rm k A) (h : j ≤ k) : Rm j A := ⟨r.room.mono h, r.gds⟩
/-- a def keeps its promise wherever no guard is up -/
structure FnG (P : Program) (w : World) (K : PySem.W.Frag) (mg : Str → Option Value) (base : Heap) (k : Nat) (f : Addr) (fd : FuncData) (ps : List Str) (sp : Sp) : Prop where
  len : ∀ vs H Q E, sp vs H Q E → vs.length = ps.length
  run : ∀ (A : Around) (outer : List Env) (s : Shared) (H : Hp) (args : Args) (us : List Value) (vs : List V) (Q : VK) (E : XK), Rm k A → Env0 P w K mg base A outer s H → BindsTo s fd args (ps.zip us) → Vals vs us → sp vs H Q E →
    codeAny (model P w) A (.call (.ref f) args) (CR (L2.CX P w) outer P w H s Q E) s
theorem FnG.mono {P : Program} {w : World} {K : PySem.W.Frag} {mg : Str → Option Value} {base : Heap} {j k : Nat} {f : Addr} {fd : FuncData} {ps : List Str} {sp : Sp} (F : FnG P w K mg base j f fd ps sp) (h : j ≤ k) : FnG P w K mg base k f fd ps sp :=
  ⟨F.len, fun A outer s H args us vs Q E hr => F.run A outer s H args us vs Q E (hr.mono h)⟩
theorem FnG.of {P : Program} {w : World} {K : PySem.W.Frag} {mg : Str → Option Value} {base : Heap} {k : Nat} {f : Addr} {fd : FuncData} {ps : List Str} {sp : Sp} (F : FnOk P w K mg base (L2.CX P w) k f fd ps sp) : FnG P w K mg base k f fd ps sp :=
  ⟨F.len, fun A outer s H args us vs Q E hr => F.run A outer s H args us vs Q E hr.room⟩

/-- a def of the text keeps its promise, by its body's reading -/
theorem fnG_of {P : Program} {w : World} {K : PySem.W.Frag} {mg : Str → Option Value} {base : Heap} {k : Nat} {f : Addr} {fd : FuncData} {x qual : Str} {st : Stmt} {N ps : List Str} {sp : Sp} (F : Fun K x qual st f fd) (S : FnScope N ps (defScope st)) (len : ∀ vs H Q E, sp vs H Q E → vs.length = ps.length)
    (hbody : ∀ (cdv : Value) (A : Around) (outer : List Env) (s : Shared) (H : Hp) (vs : List V) (Q : VK) (E : XK), Rm k (A.deeper (envOfC qual (defScope st) s.heap.objs.size f cdv)) → sp vs H Q E →
      ∃ t, PSs (cxOf (L2.CX P w) P w K mg base N qual (defScope st) f cdv A outer s H E) (defBody st) t ∧ t { nx := fun _ H' => Q .non H', rt := Q } (L2.start N vs) H) : FnG P w K mg base (k + 1) f fd ps sp := by
  obtain ⟨oc, od, kV, doc, pm, an, cdv, ct, osl, rfl, lk, hcd⟩ := F.ex
  refine ⟨len, fun A outer s H args us vs Q E hr e0 hb r hsp => ?_⟩
  have hl : vs.length = ps.length := len _ _ _ _ hsp
  have inK : K.In s.heap := e0.mod.kin.keeps fun b o z => (e0.bs b o z).1
  have limit : s.heap.NoLimit := e0.mod.nolimit.keeps fun b o z => (e0.bs b o z).1
  have params : ∀ y ∈ ps.zip us, (defScope st).names.lookup y.1 = some .local ∨ ((defScope st).names.lookup y.1 = some .cell ∧ ((cellsFrom (s.heap.objs.size + 1) (defScope st).names []).lookup y.1).isSome = true) := by
    rintro ⟨n, v⟩ hy
    cases S.par n (List.of_mem_zip hy).1 with
    | inl q => exact .inl q
    | inr q => exact .inr ⟨q, PySem.W.cellsFrom_some _ _ _ (.inl q)⟩
  have code := PySem.W.codeRec_of inK hcd
  refine codeAny_call_function hr.room.depth (inK _ _ lk) rfl S.co S.gen rfl code (hb _ _ _ _ ?_)
  refine wpAny_newFunctionEnv_cells S.kind params fun env he s1 xx => ?_
  subst he
  refine ⟨limit.keeps xx.toInCall.keep, codeAny_func ?_⟩
  obtain ⟨t, ht, hq⟩ := hbody cdv A outer s H vs Q E ⟨hr.room.deeper _, hr.gds⟩ hsp
  have I := inv_start (CX := L2.CX P w) (P := P) (w := w) (mg := mg) (base := base) (E := E) (outer := outer) (A := A) S hr.room.hd e0 hl r xx
  refine wpAny_mono (ht.run [] s1 (L2.start N vs) H _ I hq) (fun fl s' hs => ?_) fun e s' hs => hs
  cases fl with
  | next =>
    obtain ⟨σ', H', J, q⟩ := hs
    exact ⟨V.non, H', J.os, J.bare, J.base, J.hok, rfl, q⟩
  | ret u =>
    obtain ⟨v, σ', H', J, rv, q⟩ := hs
    exact ⟨v, H', J.os, J.bare, J.base, J.hok, rv, q⟩
  | brk =>
    obtain ⟨_, _, _, q⟩ := hs
    cases q
  | cont =>
    obtain ⟨_, _, _, q⟩ := hs
    cases q

/-! ### calls -/
section
variable {X : Cx} {k : Nat} {f C : Addr} {fd : FuncData} {ps : List Str} {sp : Sp} {E : L2.St → XK} {x : Str} {p pos : Pos} {e : Expr} {es : List Expr} {t : TA}
theorem run_fnG {pins : List (Addr × Obj)} {σ : L2.St} {H : Hp} {s : Shared} {Q : VK} {us : List Value} {vs : List V} (F : FnG X.prog X.w X.K X.mg X.base k f fd ps sp) (hr : Rm k X.A) (hb : Binds X.K fd ps []) (hx : PassesAt (L2.CX X.prog X.w) X σ (E σ))
    (I : Inv X pins σ H s) (r : Vals vs us) (h : sp vs H Q (E σ)) : wpAny (model X.prog X.w) X.A (call (.ref f) us) (EP X pins σ Q) X.xe s := by
  have lens : us.length = ps.length := r.length.symm.trans (F.len vs H Q (E σ) h)
  have bd := hb s us I.kIn ((congrArg List.length (List.append_nil us)).trans lens)
  rw [List.append_nil] at bd
  have run := F.run X.A X.stack s H ⟨us, []⟩ us vs Q (E σ) hr I.env0 bd r h
  refine wpAny_call (codeAny_mono run fun res s' z => ?_)
  rcases res with e | fl
  · exact hx pins H s e s' I z
  · rcases fl with u | _ | _ | _
    all_goals first | exact I.after z | exact z.elim
theorem pe_callG (F : FnG X.prog X.w X.K X.mg X.base k f fd ps sp) (hr : Rm k X.A) (hg : Gl X x) (hm : X.mg x = some (.ref f)) (hk : PySem.W.keepIn X.K (.ref f) = true) (hb : Binds X.K fd ps []) (hx : ∀ σ, PassesAt (L2.CX X.prog X.w) X σ (E σ))
    (ha : PA X (e :: es) t) (hdb : (x == ("__debug__" : Str)) = false := by decide) (he : starEach (e :: es) X.env = (false, eval e X.env) :: starEach es X.env := by rfl) (hpl : (backTo pos (starEach es X.env)).any (·.1) = false := by rfl) :
    PE X (.Call (.Name x p) (e :: es) [] pos) (tCallS sp E t) := ⟨fun pins s σ H Q I h =>
  wpAny_Call_Name_kw (ld_glob I hg hm (PySem.W.callWith_K (h₀ := X.base) I.ok.mod.kin hk (thn (ha.run pos pins s σ H _ I h) fun us s1 q => by
    obtain ⟨vs, H1, I1, r, q⟩ := q
    exact ⟨I1.kIn, run_fnG F hr hb (hx σ) I1 r q⟩) he hpl) hdb)⟩
end

/-- the promise: from data to data -/
def spV (K : PySem.W.Frag) (W : Vp) (n : Nat) (f : List D → R D) : Sp := fun vs H Q E => ∃ F ds, ds.length = n ∧ Same F H ∧ RpA K W.rc F vs ds ∧ Hd E W H (f ds) (VPost K W F H Q)
theorem spV_len {K : PySem.W.Frag} {W : Vp} {n : Nat} {f : List D → R D} {vs : List V} {H : Hp} {Q : VK} {E : XK} (h : spV K W n f vs H Q E) : vs.length = n := by
  obtain ⟨F, ds, l, _, r, _⟩ := h
  rw [r.len]; exact l
theorem start_env {K : PySem.W.Frag} {C : Rc} {F : Hp} {N : List Str} {vs : List V} {ds : List D} (r : RpA K C F vs ds) : ∀ (i : Nat) (d : D), (ds.map some ++ List.replicate (N.length - ds.length) none)[i]? = some (some d) → ∃ v, (L2.start N vs)[i]? = some (some v) ∧ Rp K C F v d := fun i d q => by
  have l := r.len
  unfold L2.start
  by_cases h : i < ds.length
  · rw [List.getElem?_append_left (by simpa using h), List.getElem?_map] at q
    cases z : ds[i]? with
    | none => rw [z] at q; cases q
    | some d' =>
      rw [z] at q; cases q
      obtain ⟨v, h1, h2⟩ := r.get z
      refine ⟨v, ?_, h2⟩
      rw [List.getElem?_append_left (by simpa [l] using h), List.getElem?_map, h1]
      rfl
  · rw [List.getElem?_append_right (by simpa using h), List.getElem?_replicate] at q
    split at q <;> cases q
theorem body_read {K : PySem.W.Frag} {W : Vp} {E : XK} {N : List Str} {o' : List Nat} {b : SF} {n : Nat} {vs : List V} {H : Hp} {Q : VK} (h : spV K W n (fnF N.length b) vs H Q E) : tS K W (fun _ => E) [] o' [] b { nx := fun _ H' => Q .non H', rt := Q } (L2.start N vs) H := by
  obtain ⟨F, ds, l, s, r, m⟩ := h
  have len := r.len
  refine ⟨H, F, F, ds.map some ++ List.replicate (N.length - ds.length) none, ⟨Same.refl H, s, Ext.refl F H, ?_, fun i d q => ?_, fun i j p d e hi => by cases hi⟩, ?_⟩
  · unfold L2.start
    simp [len]
  · obtain ⟨v, h1, h2⟩ := start_env r i d q
    exact ⟨v, h1, fun _ => h2, fun z => by cases z⟩
  · have m := hd_bind m
    cases hb : b (ds.map some ++ List.replicate (N.length - ds.length) none) with
    | no => rw [hb] at m; exact False.elim m
    | ex c => rw [hb] at m; exact fun _ H' z => m H' z
    | ok r =>
      rw [hb] at m
      cases r with
      | nx ρ' => exact fun σ' H' F' k => m .non H' F' k.same k.ext k.sub .non
      | rt d => exact fun v H' F' z1 z2 z3 z4 => m v H' F' z1 z2 z3 z4
      | bk ρ' => exact False.elim m
      | ct ρ' => exact False.elim m
/-- THE RULE for a def -/
theorem ok_fn {P : Program} {w : World} {K : PySem.W.Frag} {mg : Str → Option Value} {base : Heap} {W : Vp} {k : Nat} {f : Addr} {fd : FuncData} {x qual : Str} {st : Stmt} {N ps : List Str} {o' : List Nat} {b : SF} (F : Fun K x qual st f fd) (S : FnScope N ps (defScope st))
    (hb : ∀ (cdv : Value) (A : Around) (outer : List Env) (s : Shared) (H : Hp) (E : XK), Rm k (A.deeper (envOfC qual (defScope st) s.heap.objs.size f cdv)) → VSs (cxOf (L2.CX P w) P w K mg base N qual (defScope st) f cdv A outer s H E) W (fun _ => E) [] o' [] (defBody st) b) :
    FnG P w K mg base (k + 1) f fd ps (spV K W ps.length (fnF N.length b)) :=
  fnG_of F S (fun _ _ _ _ h => spV_len h) fun cdv A outer s H vs Q E hr h => ⟨_, hb cdv A outer s H E hr, body_read h⟩
/-- a promise over another spelling of the function -/
theorem FnG.to {P : Program} {w : World} {K : PySem.W.Frag} {mg : Str → Option Value} {base : Heap} {W : Vp} {k n : Nat} {f : Addr} {fd : FuncData} {ps : List Str} {g h : List D → R D} (F : FnG P w K mg base k f fd ps (spV K W n g)) (e : ∀ ds, ds.length = n → h ds = .no ∨ g ds = h ds) : FnG P w K mg base k f fd ps (spV K W n h) := by
  have z : ∀ vs H Q E, spV K W n h vs H Q E → spV K W n g vs H Q E := fun vs H Q E ⟨F, ds, l, s, r, m⟩ => by
    rcases e ds l with q | q
    · rw [q] at m; exact False.elim m
    · exact ⟨F, ds, l, s, r, by rw [q]; exact m⟩
  exact ⟨fun vs H Q E q => F.len vs H Q E (z _ _ _ _ q), fun A outer s H args us vs Q E hr he hb hv hs => F.run A outer s H args us vs Q E hr he hb hv (z _ _ _ _ hs)⟩

section
variable {X : Cx} {W : Vp} {E : L2.St → XK} {x : List Nat} {k n : Nat} {f : Addr} {fd : FuncData} {ps : List Str} {h : List D → R D} {nm : Str} {p pos : Pos} {e : Expr} {es : List Expr} {gA : AF}
theorem ve_call (F : FnG X.prog X.w X.K X.mg X.base k f fd ps (spV X.K W n h)) (hn : ∀ ρ ds, gA ρ = .ok ds → ds.length = n) (hr : Rm k X.A) (hg : Gl X nm) (hm : X.mg nm = some (.ref f)) (hk : PySem.W.keepIn X.K (.ref f) = true) (hb : Binds X.K fd ps []) (hx : ∀ σ, PassesAt (L2.CX X.prog X.w) X σ (E σ))
    (ha : VA X W E x (e :: es) gA) (hdb : (nm == ("__debug__" : Str)) = false := by decide) (he : starEach (e :: es) X.env = (false, eval e X.env) :: starEach es X.env := by rfl) (hpl : (backTo pos (starEach es X.env)).any (·.1) = false := by rfl) :
    VE X W E x (.Call (.Name nm p) (e :: es) [] pos) (eF h gA) := (pe_callG F hr hg hm hk hb hx ha hdb he hpl).wk fun σ H Q ⟨F, ρ, s, o, m⟩ =>
  ⟨F, ρ, s, o, (hd_bind m).imp' fun ds e1 m1 vs H1 F1 s1 x1 f1 r1 => ⟨F1, ds, hn ρ ds e1, f1, r1, (m1.heap s1).imp fun d q => q.step s1 x1⟩⟩
theorem pass_off (hN : X.xe = fun _ _ => False) : ∀ σ, PassesAt (L2.CX X.prog X.w) X σ (EN σ) := fun σ pins H s e s' I h => by
  obtain ⟨_, _, _, _, _, _, _, _, _, _, _, _, z⟩ := h
  exact z.elim
theorem pass_any : ∀ σ, PassesAt (L2.CX X.prog X.w) X σ (EN σ) := fun σ pins H s e s' I h => by
  obtain ⟨_, _, _, _, _, _, _, _, _, _, _, _, z⟩ := h
  exact z.elim
theorem pass_fn {E' : XK} (tk : Takes X (fun cls d _ H => E' cls d H)) : ∀ σ, PassesAt (L2.CX X.prog X.w) X σ ((fun _ => E') σ) := fun σ => passAt tk σ
end
/-- how many arguments -/
theorem aN_len {ρ : VEnv} {ds : List D} (h : aN ρ = .ok ds) : ds.length = 0 := by cases h; rfl
theorem aC_len {g : EF} {r : AF} {n : Nat} (hr : ∀ ρ ds, r ρ = .ok ds → ds.length = n) : ∀ ρ ds, aC g r ρ = .ok ds → ds.length = n + 1 := fun ρ ds h => by
  obtain ⟨d, _, h2⟩ := R.bind_ok h
  obtain ⟨es, h3, h4⟩ := R.bind_ok h2
  cases h4
  rw [List.length_cons, hr ρ es h3]
end Vx

set_option Elab.async false
set_option linter.all false
set_option maxRecDepth 100000
set_option maxHeartbeats 4000000
/-! VW8: chains of comparisons, repr. -/
namespace Vx
open PySem L2 PyProof.Rows
section
variable {X : Cx}
structure PChV (X : Cx) (ops : List CmpOp) (es : List Expr) (t : V → TE) : Prop where
  run : ∀ (pos : Pos) (pins : List (Addr × Obj)) (s : Shared) (σ : L2.St) (H : Hp) (y : V) (u : Value) (Q : VK), Inv X pins σ H s → RelV y u → t y σ H Q → wpAny (model X.prog X.w) X.A (compareChain pos u ops (evalEach es X.env)) (EP X pins σ Q) X.xe s
structure PChT (X : Cx) (ops : List CmpOp) (es : List Expr) (t : V → TE) : Prop where
  run : ∀ (pos : Pos) (pins : List (Addr × Obj)) (s : Shared) (σ : L2.St) (H : Hp) (y : V) (u : Value) (Q : Bool → Hp → Prop), Inv X pins σ H s → RelV y u → t y σ H (fun z H' => ∃ k, z = .bl k ∧ Q k H') → wpAny (model X.prog X.w) X.A (testChain pos u ops (evalEach es X.env)) (TP X pins σ Q) X.xe s
def tChL (r : R2) (tb : TE) : V → TE := fun x σ H Q => tb σ H fun y H1 => r x y H1 Q
def tChK (r : R2) (tb : TE) (t : V → TE) : V → TE := fun x σ H Q => tb σ H fun y H1 => r x y H1 fun z H2 => ∃ k, z = .bl k ∧ if k = true then t y σ H2 Q else Q (.bl false) H2
variable {op op' : CmpOp} {ops : List CmpOp} {b c a : Expr} {es : List Expr} {r : R2} {tb ta : TE} {t : V → TE} {pos : Pos}
theorem chv_last (ho : OpR X (compareOp op) r) (hb : PE X b tb) : PChV X [op] [b] (tChL r tb) := ⟨fun pos pins s σ H y u Q I ry h =>
  chain_last (thn (hb.run pins s σ H _ I h) fun w s1 ⟨z, H1, I1, rz, q⟩ => ho pins s1 σ H1 y z u w Q I1 ry rz q)⟩
theorem cht_last (ho : OpR X (compareOp op) r) (hb : PE X b tb) : PChT X [op] [b] (tChL r tb) := ⟨fun pos pins s σ H y u Q I ry h =>
  test_last (thn (hb.run pins s σ H _ I h) fun w s1 ⟨z, H1, I1, rz, q⟩ => thn (ho pins s1 σ H1 y z u w _ I1 ry rz q) fun v s2 ⟨v', H2, I2, r2, k, e, q2⟩ => by
    subst e; cases r2
    exact wpAny_truthy_bool ⟨H2, I2, q2⟩)⟩
theorem chv_link (ho : OpR X (compareOp op) r) (hb : PE X b tb) (ht : PChV X (op' :: ops) (c :: es) t) : PChV X (op :: op' :: ops) (b :: c :: es) (tChK r tb t) := ⟨fun pos pins s σ H y u Q I ry h =>
  chain_link (thn (hb.run pins s σ H _ I h) fun w s1 ⟨z, H1, I1, rz, q⟩ => thn (ho pins s1 σ H1 y z u w _ I1 ry rz q) fun v s2 ⟨v', H2, I2, r2, k, e, q2⟩ => by
    subst e; cases r2
    refine wpAny_truthy_bool ?_
    cases k with
    | true => exact ht.run pos pins s2 σ H2 z w Q I2 rz q2
    | false => exact ⟨.bl false, H2, I2, rfl, q2⟩)⟩
theorem cht_link (ho : OpR X (compareOp op) r) (hb : PE X b tb) (ht : PChT X (op' :: ops) (c :: es) t) : PChT X (op :: op' :: ops) (b :: c :: es) (tChK r tb t) := ⟨fun pos pins s σ H y u Q I ry h =>
  test_link (thn (hb.run pins s σ H _ I h) fun w s1 ⟨z, H1, I1, rz, q⟩ => thn (ho pins s1 σ H1 y z u w _ I1 ry rz q) fun v s2 ⟨v', H2, I2, r2, k, e, q2⟩ => by
    subst e; cases r2
    refine wpAny_truthy_bool ?_
    cases k with
    | true => exact ht.run pos pins s2 σ H2 z w Q I2 rz q2
    | false =>
      obtain ⟨k', e', q'⟩ := q2
      cases e'
      exact ⟨H2, I2, q'⟩)⟩
variable {op1 : CmpOp}
theorem pe_chN (ha : PE X a ta) (ht : PChV X (op :: op1 :: ops) (b :: c :: es) t) (hm : lastMarks (op :: op1 :: ops) (b :: c :: es) = false := by with_unfolding_all rfl) : PE X (.Compare a (op :: op1 :: ops) (b :: c :: es) pos) (fun σ H Q => ta σ H fun x H1 => t x σ H1 Q) := ⟨fun pins s σ H Q I h =>
  Compare_chain (thn (ha.run pins s σ H _ I h) fun w s1 ⟨z, H1, I1, rz, q⟩ => ht.run pos pins s1 σ H1 z w Q I1 rz q) hm⟩
theorem pt_chN (ha : PE X a ta) (ht : PChT X (op :: op1 :: ops) (b :: c :: es) t) (hm : lastMarks (op :: op1 :: ops) (b :: c :: es) = false := by with_unfolding_all rfl) : PT X (.Compare a (op :: op1 :: ops) (b :: c :: es) pos) (fun σ H Q => ta σ H fun x H1 => t x σ H1 (fun z H' => ∃ k, z = .bl k ∧ Q k H')) := ⟨fun pins s σ H Q I h =>
  isTrue_chain (thn (ha.run pins s σ H _ I h) fun w s1 ⟨z, H1, I1, rz, q⟩ => ht.run pos pins s1 σ H1 z w Q I1 rz q) hm⟩
end

/-! ### .. by data -/
def tCh (K : PySem.W.Frag) (W : Vp) (E : L2.St → XK) (x : List Nat) (c : CF) : V → TE := fun v σ H Q => ∃ F ρ d, Same F H ∧ EnvOk K W x F H σ ρ ∧ Rp K W.rc F v d ∧ Hd (E σ) W H (c d ρ) (VPost K W F H Q)
abbrev VCh (X : Cx) (W : Vp) (E : L2.St → XK) (x : List Nat) (ops : List CmpOp) (es : List Expr) (c : CF) : Prop := PChV X ops es (tCh X.K W E x c)
abbrev VChT (X : Cx) (W : Vp) (E : L2.St → XK) (x : List Nat) (ops : List CmpOp) (es : List Expr) (c : CF) : Prop := PChT X ops es (tCh X.K W E x c)
theorem PChV.wk {X : Cx} {ops : List CmpOp} {es : List Expr} {t t' : V → TE} (h : PChV X ops es t) (i : ∀ v σ H Q, t' v σ H Q → t v σ H Q) : PChV X ops es t' := ⟨fun p pins s σ H y u Q I r q => h.run p pins s σ H y u Q I r (i y σ H Q q)⟩
theorem PChT.wk {X : Cx} {ops : List CmpOp} {es : List Expr} {t t' : V → TE} (h : PChT X ops es t) (i : ∀ v σ H Q, t' v σ H Q → t v σ H Q) : PChT X ops es t' := ⟨fun p pins s σ H y u Q I r q => h.run p pins s σ H y u Q I r (i y σ H _ q)⟩
section
variable {X : Cx} {W : Vp} {E : L2.St → XK} {x : List Nat} {op op' op1 : CmpOp} {ops : List CmpOp} {a b c : Expr} {es : List Expr} {r : R2} {f : D → D → R D} {ga gb : EF} {g : CF} {pos : Pos}
theorem chL_read {K : PySem.W.Frag} (o2 : Op2 K r f) (v : V) (σ : L2.St) (H : Hp) (Q : VK) (h : tCh K W E x (cLast f gb) v σ H Q) : tChL r (tV K W E x gb) v σ H Q := by
  obtain ⟨F, ρ, d, s, o, rv, m⟩ := h
  exact ⟨F, ρ, s, o, (hd_bind m).imp fun e m1 w H1 F1 s1 x1 f1 r1 => o2 W (E σ) F1 H1 v w d e Q f1 (rv.up x1.up) r1 ((m1.heap s1).imp fun z q => q.step s1 x1)⟩
theorem chK_read {K : PySem.W.Frag} (o2 : Op2 K r f) (v : V) (σ : L2.St) (H : Hp) (Q : VK) (h : tCh K W E x (cLink f gb g) v σ H Q) : tChK r (tV K W E x gb) (tCh K W E x g) v σ H Q := by
  obtain ⟨F, ρ, d, s, o, rv, m⟩ := h
  refine ⟨F, ρ, s, o, (hd_bind m).imp fun e m1 w H1 F1 s1 x1 f1 r1 => o2 W (E σ) F1 H1 v w d e _ f1 (rv.up x1.up) r1 (((hd_bind m1).heap s1).imp fun z q y H2 F2 s2 x2 f2 r2 => ?_)⟩
  have q := hd_bind q
  cases r2 with
  | bl k =>
    refine ⟨k, rfl, ?_⟩
    cases k with
    | true =>
      show tCh K W E x g w σ H2 Q
      exact ⟨F2, ρ, e, f2, (o.mono x1.up s1).mono x2.up s2, r1.up x2.up, (Hd.heap (r := g e ρ) q (s1.trans s2)).imp fun z k => k.step (s1.trans s2) (x1.trans s1 x2)⟩
    | false => exact q (.bl false) H2 F2 (s1.trans s2) (x1.trans s1 x2) f2 (.bl false)
  | _ => exact False.elim q
theorem vc_last (ho : OpR X (compareOp op) r) (o2 : Op2 X.K r f) (hb : VE X W E x b gb) : VCh X W E x [op] [b] (cLast f gb) := (chv_last ho hb).wk (chL_read o2)
theorem vct_last (ho : OpR X (compareOp op) r) (o2 : Op2 X.K r f) (hb : VE X W E x b gb) : VChT X W E x [op] [b] (cLast f gb) := (cht_last ho hb).wk (chL_read o2)
theorem vc_link (ho : OpR X (compareOp op) r) (o2 : Op2 X.K r f) (hb : VE X W E x b gb) (ht : VCh X W E x (op' :: ops) (c :: es) g) : VCh X W E x (op :: op' :: ops) (b :: c :: es) (cLink f gb g) := (chv_link ho hb ht).wk (chK_read o2)
theorem vct_link (ho : OpR X (compareOp op) r) (o2 : Op2 X.K r f) (hb : VE X W E x b gb) (ht : VChT X W E x (op' :: ops) (c :: es) g) : VChT X W E x (op :: op' :: ops) (b :: c :: es) (cLink f gb g) := (cht_link ho hb ht).wk (chK_read o2)
theorem ch_read {K : PySem.W.Frag} (σ : L2.St) (H : Hp) (Q : VK) (h : tV K W E x (eCh ga g) σ H Q) : tV K W E x ga σ H fun v H1 => tCh K W E x g v σ H1 Q := by
  obtain ⟨F, ρ, s, o, m⟩ := h
  exact ⟨F, ρ, s, o, (hd_bind m).imp fun d m1 v H1 F1 s1 x1 f1 r1 => ⟨F1, ρ, d, f1, o.mono x1.up s1, r1, (m1.heap s1).imp fun z q => q.step s1 x1⟩⟩
theorem ve_ch (ha : VE X W E x a ga) (ht : VCh X W E x (op :: op1 :: ops) (b :: c :: es) g) (hm : lastMarks (op :: op1 :: ops) (b :: c :: es) = false := by with_unfolding_all rfl) : VE X W E x (.Compare a (op :: op1 :: ops) (b :: c :: es) pos) (eCh ga g) := (pe_chN ha ht hm).wk ch_read
theorem vt_ch (ha : VE X W E x a ga) (ht : VChT X W E x (op :: op1 :: ops) (b :: c :: es) g) (hm : lastMarks (op :: op1 :: ops) (b :: c :: es) = false := by with_unfolding_all rfl) : VT X W E x (.Compare a (op :: op1 :: ops) (b :: c :: es) pos) (tB (eCh ga g)) :=
  (pt_chN ha ht hm).wk fun σ H Q h => ch_read σ H _ (tB_of (te := tV X.K W E x ga) (hE := fun _ _ _ => False) σ H Q h)
end

/-! ### repr of lists and tuples -/
def rRepr (K : PySem.W.Frag) : List V → Hp → VK → Prop := fun vs H Q => ∃ a d, vs = [.ref a] ∧ Dp K H (.ref a) d ∧ d.showable = true ∧ d.depth ≤ 64 ∧ d.shown.length ≤ sizeLine ∧ d.canLay0 = true ∧ Q (.str d.shown) H
theorem cr_repr {X : Cx} (hg : X.A.guards = some []) (hu : X.A.units + 66 < cLine) : CallR X (.builtin "repr") (rRepr X.K) := fun pins s σ H vs us Q I r ⟨a, d, e, hd, h1, h2, h3, h4, q⟩ => by
  subst e
  cases r with
  | cons r t =>
    cases t
    cases r
    obtain ⟨as, rd⟩ := Dp.reads I d (.ref a) (.ref a) hd rfl
    exact repr_of_reads' rd h1 (PyData.noDict_hsm (PyData.hasDict_of_canLay d h4)) hg (by omega) (fun _ _ z => z) (fun h' u tk hk => ⟨.str d.shown, H, I.kept (h' := h') (t' := tk) hk, ⟨u, rfl⟩, q⟩) h3
theorem ca_repr {K : PySem.W.Frag} : CaR K (rRepr K) fRepr := ca_one (fun W E F H v d Q s r m => by
  have m : Hd E W H (if (d.showable && decide (d.depth ≤ 64) && decide (d.shown.length ≤ sizeLine) && okD d && !flatD d) = true then R.ok (.str d.shown) else .no) (VPost K W F H Q) := m
  by_cases z : (d.showable && decide (d.depth ≤ 64) && decide (d.shown.length ≤ sizeLine) && okD d && !flatD d) = true
  · rw [if_pos z] at m
    simp only [Bool.and_eq_true, decide_eq_true_eq, Bool.not_eq_true'] at z
    obtain ⟨⟨⟨⟨z1, z2⟩, z3⟩, z4⟩, z5⟩ := z
    have dp := (r.up s).dp _ _ (okD_l z4)
    have ref : ∃ a, v = .ref a := by cases r <;> first | exact ⟨_, rfl⟩ | cases z5
    obtain ⟨a, rfl⟩ := ref
    exact ⟨a, d, rfl, dp, z1, z2, z3, okD_l z4, m _ H F (Same.refl H) (Ext.refl F H) s (.str _)⟩
  · rw [if_neg z] at m; exact False.elim m) fun ds z => not_one (g := fRepr) (f := fun d => fRepr [d]) (fun _ => rfl) rfl (fun a b r => by cases a <;> rfl) z
end Vx

set_option Elab.async false
set_option linter.all false
set_option maxRecDepth 100000
set_option maxHeartbeats 4000000
/-! VW9: a def as its callers see it; the law's end. -/
namespace Vx
open PySem L2 PyProof.Rows

/-- the def called nm is there, and hands back h of its n arguments -/
structure Cal (P : Program) (w : World) (K : PySem.W.Frag) (mg : Str → Option Value) (base : Heap) (W : Vp) (nm : Str) (k n : Nat) (h : List D → R D) : Prop where
  ex : ∃ (f : Addr) (fd : FuncData) (ps : List Str), mg nm = some (.ref f) ∧ PySem.W.keepIn K (.ref f) = true ∧ Binds K fd ps [] ∧ FnG P w K mg base k f fd ps (spV K W n h)
/-- a def of the text, under the module's name nm -/
structure Dn (K : PySem.W.Frag) (mg : Str → Option Value) (nm x : Str) (st : Stmt) (ps : List Str) : Prop where
  ex : ∃ (f : Addr) (fd : FuncData), mg nm = some (.ref f) ∧ Fun K x x st f fd ∧ Binds K fd ps []
section
variable {P : Program} {w : World} {K : PySem.W.Frag} {mg : Str → Option Value} {base : Heap} {W : Vp}
theorem Cal.to {nm : Str} {k n : Nat} {g h : List D → R D} (c : Cal P w K mg base W nm k n g) (e : ∀ ds, ds.length = n → h ds = .no ∨ g ds = h ds) : Cal P w K mg base W nm k n h := by
  obtain ⟨f, fd, ps, a, b, d, q⟩ := c.ex
  exact ⟨f, fd, ps, a, b, d, q.to e⟩
/-- THE RULE for a def, as its callers see it -/
theorem cal {nm x : Str} {st : Stmt} {N ps : List Str} {o' : List Nat} {b : SF} {k : Nat} (d : Dn K mg nm x st ps) (S : FnScope N ps (defScope st))
    (hb : ∀ (f : Addr) (cdv : Value) (A : Around) (outer : List Env) (s : Shared) (H : Hp) (E : XK), Rm k (A.deeper (envOfC x (defScope st) s.heap.objs.size f cdv)) → VSs (cxOf (L2.CX P w) P w K mg base N x (defScope st) f cdv A outer s H E) W (fun _ => E) [] o' [] (defBody st) b) :
    Cal P w K mg base W nm (k + 1) ps.length (fnF N.length b) := by
  obtain ⟨f, fd, a, F, c⟩ := d.ex
  exact ⟨f, fd, ps, a, F.kp, c, ok_fn F S (hb f)⟩
/-- how the arguments of a def bind -/
theorem dn_mk {nm x : Str} {st : Stmt} {ps : List Str} {f : Addr} {oc : Value} {od an : Option Addr} {osl : Array (Option Value)} {kV doc pm cdv ct : Value} (a : mg nm = some (.ref f))
    (l : K.lookup f = some ⟨oc, od, .func (PySem.W.fnOf x x (defArgs st) (defBody st) (defScope st) .none kV doc pm an cdv ct), osl⟩) (c : PySem.W.codeIn K cdv x = true) (k : PySem.W.keepIn K (.ref f) = true)
    (hb : ∀ (kV doc pm : Value) (an : Option Addr) (cdv ct : Value) (us : List Value), us.length = ps.length → bindArgs (PySem.W.fnOf x x (defArgs st) (defBody st) (defScope st) .none kV doc pm an cdv ct) ⟨us, []⟩ = pure (ps.zip us)) : Dn K mg nm x st ps :=
  ⟨f, _, a, fun_mk l c k, (fun_mk l c k).binds hb⟩
end
section
variable {X : Cx} {W : Vp} {E : L2.St → XK} {x : List Nat} {k j n : Nat} {h : List D → R D} {nm : Str} {p pos : Pos} {e : Expr} {es : List Expr} {gA : AF}
theorem ve_cal (c : Cal X.prog X.w X.K X.mg X.base W nm j n h) (hn : ∀ ρ ds, gA ρ = .ok ds → ds.length = n) (hr : Rm k X.A) (hx : ∀ σ, PassesAt (L2.CX X.prog X.w) X σ (E σ))
    (ha : VA X W E x (e :: es) gA) (hj : j ≤ k := by decide) (hg : Gl X nm := by rfl) (hdb : (nm == ("__debug__" : Str)) = false := by decide) (he : starEach (e :: es) X.env = (false, eval e X.env) :: starEach es X.env := by rfl) (hpl : (backTo pos (starEach es X.env)).any (·.1) = false := by rfl) :
    VE X W E x (.Call (.Name nm p) (e :: es) [] pos) (eF h gA) := by
  obtain ⟨f, fd, ps, a, b, d, q⟩ := c.ex
  exact ve_call q hn (hr.mono hj) hg a b d hx ha hdb he hpl
end

/-! ### the law's end -/
theorem caller_gds : callerA.guards = some [] := rfl
/-- what is asked of the law's def: from the script's ints, True -/
def spLaw (K : PySem.W.Frag) : Sp := fun vs H Q _ => ∃ (a : Addr) (ns : List Int), vs = [.ref a] ∧ SqR K H a (ns.map V.int) ∧ ns.length ≤ 63 ∧ ∀ H', Q (.bl true) H'
section
variable {P : Program} {w : World} {K : PySem.W.Frag} {mg mb : Str → Option Value} {k : Nat} {fa a : Addr} {fd : FuncData} {x : Str} {sp : Sp} {s₁ : Shared} {vs : List Value} {ns : List Int}
theorem law_callH (KX : K.In s₁.heap) (hns : s₁.heap.Ns mainGlobals mg) (hb : s₁.heap.Ns builtinsNs mb) (hbb : ∀ x : Str, x ≠ "__name__" → mb x = bootBuiltins x) (hlim : s₁.heap.NoLimit) (hg : s₁.gens = #[])
    (ha : s₁.heap.get? a = some { cls := .type "list", data := .seq vs.toArray }) (hr : Room k callerA)
    (F : ∀ base : Heap, K.In base → base.Ns mainGlobals mg → FnG P w K mg base k fa fd [x] sp) (hbind : ∀ (s : Shared) (u : Value), BindsTo s fd ⟨[u], []⟩ [(x, u)])
    (H : Hp) (hsp : sp [.ref a] H (fun v _ => v = .bl true) fun _ _ _ => False) (hok : HOk P w H s₁.heap) (at0 : ∀ b, b ≠ a → H b = none) (nK : H a = none ∨ K.lookup a = none ∧ ∃ u, H a = some (.frz { cls := .type "list", data := .seq vs.toArray } u)) :
    codeAny (model P w) callerA (.call (.ref fa) ⟨[.ref a], []⟩) (fun r s' => r = .ok (.ret (.bool true)) ∧ OldK s₁.heap s'.heap ∧ s'.os = s₁.os ∧ AllBare s'.gens) s₁ := by
  have under : ∀ {b : Addr} {o : Obj}, s₁.heap.get? b = some o → H b = none → (hidT s₁.heap H).get? b = some o := fun e n => hidT_get e n
  have dict : ∀ {b : Addr} {m : Str → Option Value}, s₁.heap.Ns b m → (hidT s₁.heap H).Ns b m := fun {b m} z => by
    obtain ⟨o, es, ep, e, d, r⟩ := z
    refine ⟨o, es, ep, under e (at0 b fun y => ?_), d, r⟩
    subst y
    rw [ha] at e; cases e
    cases d
  have kin : K.In (hidT s₁.heap H) := fun b o e => under (KX b o e) (by
    by_cases y : b = a
    · subst y
      rcases nK with z | ⟨z, _⟩
      · exact z
      · rw [z] at e; cases e
    · exact at0 b y)
  have md : Mod K mg (hidT s₁.heap H) := ⟨kin, dict hns, ⟨mb, dict hb, hbb⟩, by
    obtain ⟨mc, h1, h2⟩ := hlim
    exact ⟨mc, dict h1, h2⟩⟩
  have none0 : ∀ b : Addr, b ∉ ([] : List Addr) := fun b z => by cases z
  have env0 : Env0 P w K mg (hidT s₁.heap H) callerA [] s₁ H := ⟨rfl, md, fun b o e => of_hidT e, Nat.le_of_eq (hidT_size _ _), trivial, fun b z => (none0 b z).elim, hok, AllBare.of_eq hg⟩
  have run := (F _ kin (dict hns)).run callerA [] s₁ H ⟨[.ref a], []⟩ [.ref a] [.ref a] _ _ ⟨hr, caller_gds⟩ env0 (hbind s₁ (.ref a)) (.cons rfl .nil) hsp
  refine codeAny_mono run fun r s' z => ?_
  rcases r with e | fl
  · obtain ⟨_, _, _, _, _, _, _, _, _, _, _, _, q⟩ := z
    exact q.elim
  · rcases fl with _ | _ | _ | u
    all_goals first | exact z.elim | skip
    obtain ⟨v, H', os, bare, un, hok', r', q⟩ := z
    have q' : v = .bl true := q
    subst q'
    cases r'
    refine ⟨rfl, OldK.of_keep fun b o e => ?_, os, bare⟩
    by_cases y : H b = none
    · exact un.keep b o e y (none0 b) (none0 b)
    · have e1 : b = a := Classical.byContradiction fun z => y (at0 b z)
      subst e1
      rcases nK with z | ⟨_, u, z⟩
      · exact (y z).elim
      · obtain ⟨e2, _⟩ := hok' b _ (un.frzs b _ _ z)
        rw [ha] at e; cases e
        exact e2
theorem law_callG (KX : K.In s₁.heap) (hns : s₁.heap.Ns mainGlobals mg) (hb : s₁.heap.Ns builtinsNs mb) (hbb : ∀ x : Str, x ≠ "__name__" → mb x = bootBuiltins x) (hlim : s₁.heap.NoLimit) (hg : s₁.gens = #[])
    (ha : s₁.heap.get? a = some { cls := .type "list", data := .seq vs.toArray }) (hi : IntsAre vs ns) (hl : ns.length ≤ sizeLine) (hr : Room k callerA)
    (F : ∀ base : Heap, K.In base → base.Ns mainGlobals mg → FnG P w K mg base k fa fd [x] sp) (hbind : ∀ (s : Shared) (u : Value), BindsTo s fd ⟨[u], []⟩ [(x, u)])
    (hsp : ∀ H : Hp, SqR K H a (ns.map V.int) → sp [.ref a] H (fun v _ => v = .bl true) fun _ _ _ => False) :
    codeAny (model P w) callerA (.call (.ref fa) ⟨[.ref a], []⟩) (fun r s' => r = .ok (.ret (.bool true)) ∧ OldK s₁.heap s'.heap ∧ s'.os = s₁.os ∧ AllBare s'.gens) s₁ := by
  have vals := vals_ints hi
  have lens := hi.length
  cases hk : K.lookup a with
  | some o =>
    have e := KX a o hk
    rw [ha] at e
    cases e
    exact law_callH KX hns hb hbb hlim hg ha hr F hbind (fun _ => none) (hsp _ (.inr ⟨vs.toArray, _, hk, by rw [List.size_toArray, lens]; exact hl, by simpa using vals⟩)) (fun b u z => by cases z) (fun b _ => rfl) (.inl rfl)
  | none =>
    have at1 : (if a = a then some (HO.frz { cls := .type "list", data := .seq vs.toArray } (.lst (ns.map V.int))) else none) = some (HO.frz { cls := .type "list", data := .seq vs.toArray } (.lst (ns.map V.int))) := if_pos rfl
    refine law_callH KX hns hb hbb hlim hg ha hr F hbind (fun b => if b = a then some (.frz { cls := .type "list", data := .seq vs.toArray } (.lst (ns.map V.int))) else none) (hsp _ (.inl (.inr ⟨_, at1⟩))) (fun b u z => ?_) (fun b z => if_neg z) (.inr ⟨hk, _, at1⟩)
    by_cases y : b = a
    · subst y
      have z' := at1.symm.trans z
      cases z'
      exact ⟨ha, by rw [List.length_map]; exact hl, vs, _, vals, ha⟩
    · have z' := (if_neg y).symm.trans z
      cases z'
end
theorem walkG {l : PySem.W.OpenLaw} {k : Nat} {q : Program} {loose : List Str} {XP : (Str → Option Value) → Heap → Prop} {YP : World → Heap → Prop} {d : DefRec} {K : Params → PySem.W.Frag} {sp : PySem.W.Frag → Sp} {x : Str}
    (hn : l.most = some 63) (hdf : d.params.defaults = []) (hr : Room k callerA) (hY : ∀ (w : World) (h : Heap), YP w h → (K w.params).In h)
    (F : ∀ (w : World) (mg : Str → Option Value) (fa : Addr) (h : Heap), (K w.params).In h → h.Ns mainGlobals mg → mg d.name = some (.ref fa) →
      ∃ fd : FuncData, (∀ (s : Shared) (u : Value), BindsTo s fd ⟨[u], []⟩ [(x, u)]) ∧ ∀ base : Heap, (K w.params).In base → base.Ns mainGlobals mg → FnG l.prog w (K w.params) mg base k fa fd [x] (sp (K w.params)))
    (hsp : ∀ (K : PySem.W.Frag) (H : Hp) (a : Addr) (ns : List Int), ns.length ≤ 63 → SqR K H a (ns.map V.int) → sp K [.ref a] H (fun v _ => v = .bl true) fun _ _ _ => False) :
    PySem.W.WalkO q loose XP YP l.row.toRowW d [] (fun f vs => PySem.call f vs) := by
  refine Att.attach_call hn hdf fun w s₀ s₁ mg mb fa o pm cd doc a vs ns G Y ho hd hcd hmg hobj hints hlen hg => ?_
  have KX := hY w _ Y
  obtain ⟨fd, hb, hF⟩ := F w mg fa _ KX G.T.g hmg
  exact law_callG KX G.T.g G.T.b G.T.builtins G.T.nolimit hg hobj hints (Nat.le_trans hlen (by decide)) hr hF hb fun H hS => hsp _ H a ns hlen hS
/-- the law's def by its data: it is enough that the function says True of every script -/
theorem law_end {P : Program} {w : World} {K : PySem.W.Frag} {mg : Str → Option Value} {base : Heap} {W : Vp} {k : Nat} {fa : Addr} {fd : FuncData} {ps : List Str} {h : List D → R D} (F : FnG P w K mg base k fa fd ps (spV K W 1 h))
    (t : ∀ ns : List Int, ns.length ≤ 63 → h [.list (ns.map .int)] = .ok (.bool true)) : FnG P w K mg base k fa fd ps (spLaw K) := by
  have z : ∀ vs H Q E, spLaw K vs H Q E → spV K W 1 h vs H Q E := fun vs H Q E ⟨a, ns, e, hs, hl, q⟩ => by
    subst e
    refine ⟨H, [.list (ns.map .int)], rfl, Same.refl H, .cons (.lst hs RpA.ints) .nil, ?_⟩
    rw [t ns hl]
    exact fun v H' F' _ _ _ r => by cases r; exact q H'
  exact ⟨fun vs H Q E q => F.len vs H Q E (z _ _ _ _ q), fun A outer s H args us vs Q E hr he hb hv hs => F.run A outer s H args us vs Q E hr he hb hv (z _ _ _ _ hs)⟩
end Vx

namespace Vx
open PySem L2 PyProof.Rows
/-- an int of the module -/
theorem ve_k {X : Cx} {W : Vp} {E : L2.St → XK} {x : List Nat} {nm : Str} {n : Int} {pos : Pos} (h : ∃ t, X.mg nm = some (.int n t)) (hg : Gl X nm := by rfl) (hd : (nm == ("__debug__" : Str)) = false := by decide) : VE X W E x (.Name nm pos) (eC (.int n)) := by
  obtain ⟨t, h⟩ := h
  exact ve_c (v := .int n) (pe_glob hg h ⟨t, rfl⟩ hd) fun _ _ _ => .int n
/-- an own exception class over ValueError (by way of LightError, or without) -/
structure ExF (K : PySem.W.Frag) (mg : Str → Option Value) (nm : Str) (C : Addr) : Prop where
  g : mg nm = some (.ref C)
  x : PySem.W.excIn K C [.type "ValueError", .type "Exception", .type "BaseException", .type "object"] "ValueError.__new__" = true
  k : PySem.W.keepIn K (.ref C) = true
  b : PySem.W.subIn K (.ref C) (.type "BaseException") = some true
  t : PySem.W.typeIn K (.ref C) = some (.type "type")
end Vx

set_option Elab.async false
set_option linter.all false
set_option maxRecDepth 100000
set_option maxHeartbeats 4000000
/-! VW10: try: f(..) except X as e: suite that returns. -/
namespace Vx
open PySem L2 PyProof.Rows

def Vp.hot (W : Vp) (a : Addr) (n : Nat) : Vp := { W with rc := { CI := W.rc.CI, xa := some (a, n) } }
def tSuite (K : PySem.W.Frag) (W : Vp) (cs o o' : List Nat) (f : SF) : Addr → Value → Option Addr → TS := fun a cls d De σ H => ∃ n, n ∈ cs ∧ cls = .ref (W.ea n) ∧ d = none ∧ tS K (W.hot a n) EN o o' [] f De σ H
theorem suite_of {X : Cx} {W : Vp} {cs o o' : List Nat} {f : SF} {suite : List Stmt} (h : ∀ (a : Addr) (oe : Obj) (pn : List (Addr × Obj)) (n : Nat), n ∈ cs → Zc (.ref (W.ea n)) none oe → (∃ vs, oe.data = .fields vs) → VSs (X.suite a ((a, oe) :: pn)) (W.hot a n) EN o o' [] suite f)
    (a : Addr) (oe : Obj) (cls : Value) (d : Option Addr) (pn : List (Addr × Obj)) (hz : Zc cls d oe) (hf : ∃ vs, oe.data = .fields vs) : PSs (X.suite a ((a, oe) :: pn)) suite (tSuite X.K W cs o o' f a cls d) := ⟨fun pins s σ H De I ⟨n, hn, e1, e2, q⟩ => by
  subst e1; subst e2
  exact (h a oe pn n hn hz hf).run pins s σ H De I q⟩
theorem vs_try {X : Cx} {W : Vp} {E : L2.St → XK} {o o' ol cs : List Nat} {st : Stmt} {i : Nat} {c : Value} {g : EF} {f : SF} (h : PS X st (fun De σ H => tDrop (tV X.K W (WE (wAs X.K c i (tSuite X.K W cs o o' f) (fun _ _ _ _ => False) De)) [] g) De σ H))
    (hx : W.rc.xa = none) (hi : i ∉ o) (hc : ∀ n ∈ cs, PySem.W.exmOne X.K (.ref (W.ea n)) c = some true) : VS X W E o o ol st (sTry i cs g f) := h.wk fun De σ H ⟨H0, F0, F, ρ, k, m⟩ => by
  refine ⟨H, ρ, Same.refl H, k.envOk.all, ?_⟩
  unfold sTry at m
  cases hg : g ρ with
  | no => rw [hg] at m; exact False.elim m
  | ok d =>
    rw [hg] at m
    exact fun v H2 F2 s2 x2 f2 r2 => m σ H2 F (k.heap s2)
  | ex n =>
    rw [hg] at m
    have m : HdS E W H0 (if cs.contains n then (match f (ρ.set i (some (exnD n))) with
      | .ok (.rt d) => if okD d then R.ok (Out.rt d) else .no
      | _ => .no) else .no) (SPost X.K W H0 F0 o ol De) := m
    intro H2 s2
    by_cases hn : cs.contains n = true
    case neg => rw [if_neg hn] at m; exact False.elim m
    rw [if_pos hn] at m
    have hn' : n ∈ cs := by simpa using hn
    refine ⟨true, hc n hn', fun _ a ha => ⟨n, hn', rfl, rfl, H0, F0, F, ρ.set i (some (exnD n)), ?_, ?_⟩, fun z => nomatch z⟩
    · have k2 := k.heap s2
      have k3 : Stk X.K (W.hot a n) H0 F0 o F σ ρ H2 := ⟨k2.same, k2.sub, k2.ext, k2.len, fun j d q => by
        obtain ⟨v, a1, b1, c1⟩ := k2.env j d q
        refine ⟨v, a1, fun z => Rp.hot (C := W.rc) (C' := (W.hot a n).rc) rfl hx _ _ (b1 z), fun z => ?_⟩
        obtain ⟨p, vs, ds, e1, e2, e3, e4, e5, e6⟩ := c1 z
        exact ⟨p, vs, ds, e1, e2, e3, e4, e5, RpA.hot (C := W.rc) (C' := (W.hot a n).rc) rfl hx _ _ e6⟩, k2.sep⟩
      exact k3.set hi (.exn rfl)
    · cases hs : f (ρ.set i (some (exnD n))) with
      | no => rw [hs] at m; exact False.elim m
      | ex c => rw [hs] at m; exact False.elim m
      | ok r =>
        rw [hs] at m
        cases r with
        | rt d =>
          have m : HdS E W H0 (if okD d then R.ok (Out.rt d) else .no) (SPost X.K W H0 F0 o ol De) := m
          by_cases z : okD d = true
          · rw [if_pos z] at m
            exact fun v H3 F3 z1 z2 z3 z4 => m v H3 F3 z1 z2 z3 (Rp.any _ _ z4 (okD_l z))
          · rw [if_neg z] at m; exact False.elim m
        | nx ρ' => exact False.elim m
        | bk ρ' => exact False.elim m
        | ct ρ' => exact False.elim m

theorem vs_tryAs {X : Cx} {W : Vp} {E : L2.St → XK} {o o' ol cs : List Nat} {i : Nat} {x n : Str} {c : Value} {e : Expr} {suite : List Stmt} {b0 : Stmt} {np p1 p2 pos : Pos} {g : EF} {f : SF}
    (hb : ∀ (Wx : WX) (pn : List (Addr × Obj)) (xe : Value → Shared → Prop), Takes (X.tr pn xe) Wx → VE (X.tr pn xe) W (WE Wx) [] e g)
    (hsu : ∀ (a : Addr) (oe : Obj) (pn : List (Addr × Obj)) (n : Nat), n ∈ cs → Zc (.ref (W.ea n)) none oe → (∃ vs, oe.data = .fields vs) → VSs (X.suite a ((a, oe) :: pn)) (W.hot a n) EN o o' [] (b0 :: suite) f)
    (hcl : X.mg x = some c) (hx : W.rc.xa = none) (hce : ∀ n ∈ cs, PySem.W.exmOne X.K (.ref (W.ea n)) c = some true) (hN : X.N.Nodup) (hs : X.stack = X.env :: X.outer := by rfl) (hf : X.env.frame = some X.env.locals := by rfl) (hi : X.N[i]? = some n := by rfl)
    (hln : X.env.kindOf n = some .local := by rfl) (hg : Gl X x := by rfl) (hd : (x == ("__debug__" : Str)) = false := by decide) (hsw : ∀ pn xe, swapsWith e none p1.line (X.tr pn xe).env = pure false := by intro _ _; rfl) (hio : i ∉ o := by decide) :
    VS X W E o o ol (.Try [.Expr e p1] [.ExceptHandler (some (.Name x np)) (some n) (b0 :: suite) p2] [] [] pos) (sTry i cs g f) :=
  vs_try (ps_try_as (tb := fun Wx => tDrop (tV X.K W (WE Wx) [] g)) (ts := tSuite X.K W cs o o' f) (Wout := fun _ _ _ _ => False) hs hf hN hi hln ⟨hg, hd, .inl hcl⟩ takes0 (fun Wx pn xe tk _ => pss_one (ps_expr (hb Wx pn xe tk) (hsw pn xe))) (suite_of hsu)) hx hio hce
theorem Rm.rep {k : Nat} {A : Around} (r : Rm k A) : A.units + 66 < cLine := by have := r.room.un; omega

/-! ### isinstance of what is handled -/
theorem asX_exn {K : PySem.W.Frag} {C : Rc} {H : Hp} {v : V} {d : D} {n : Nat} (r : Rp K C H v d) (h : asX d = some n) : ∃ a, v = .ref a ∧ C.xa = some (a, n) := by
  cases r with
  | obj h1 h2 =>
    cases h2 with
    | nil => cases h
    | cons h3 h4 => cases h
  | @exn a m h1 =>
    have e : ((m : Int)).toNat = n := by simpa [asX] using h
    rw [Int.toNat_natCast] at e
    exact ⟨a, rfl, by rw [h1, e]⟩
  | _ => cases h
/-- one of the classes of a tuple that was just laid -/
def rIsET (K : PySem.W.Frag) (D' a : Addr) : List V → Hp → VK → Prop := fun xs H Q => ∃ (tp : Addr) (cs : List V) (us : List Value) (b : Bool), xs = [.ref a, .ref tp] ∧ H tp = some (.tup cs) ∧ Paired ClsV cs us ∧ PySem.W.kitAny K (.ref D') us = some b ∧ Q (.bl b) H
theorem call_isET {X : Cx} {a D' : Addr} {oe : Obj} {pn : List (Addr × Obj)} (C : ExcC X.K D') (hz : Zc (.ref D') none oe) (hf : ∃ vs, oe.data = .fields vs) : CallR (X.suite a ((a, oe) :: pn)) (.builtin "isinstance") (rIsET X.K D' a) := by
  intro pins s σ H xs us Q I r h
  obtain ⟨tp, cs, ws, b, rfl, hT, hcs, e, q⟩ := h
  obtain ⟨u1, u2, rfl, r1, r2⟩ := vals2 r
  cases (show u1 = Value.ref a from r1)
  cases (show u2 = Value.ref tp from r2)
  have at1 := (I.pin (a, oe) (List.mem_append.mpr (.inl List.mem_cons_self))).1
  obtain ⟨fs, hfs⟩ := hf
  have J : PySem.W.InstAt s.heap a oe D' none := by
    obtain ⟨oc, od, oda, osl⟩ := oe
    obtain ⟨h1, h2⟩ := hz
    dsimp only at h1 h2 hfs
    subst h1 h2 hfs
    exact ⟨at1, rfl, rfl, trivial⟩
  obtain ⟨_, its, rv, o, h1, h2, n, h3⟩ := (show ObjOk X.prog X.w H s.heap tp (.tup cs) from I.hok tp _ hT)
  have e3 := ClsV.all hcs rv
  subst e3
  obtain ⟨oc, od, dt, sl⟩ := o
  simp only at h2 h3
  subst h2 h3
  have Z := PySem.W.handS_kitx_exc (x := a) (ox := oe) C.hg C.hk C.hs C.hd C.ha C.hn C.ht C.hm
  exact PySem.W.kia_tup Z I.kIn J h1 e (fun z => nomatch z) fun tk => ⟨.bl b, H, I.tok tk, rfl, q⟩
section
variable {X : Cx} {W : Vp} {E : L2.St → XK} {x : List Nat} {e : Expr} {i n m : Nat} {a : Addr}
theorem ve_isE {c : V} {cv : Value} (h : PE X e (tCB (rIsE X.K (W.ea n) a) (tCons (tVar i) (tCons (L2.tC c) tNil)))) (hc : ∀ u, RelV c u → u = cv) (hk : PySem.W.kitOne X.K (.ref (W.ea n)) cv = some (excSub n m)) (hi : i ∉ x := by decide) : VE X (W.hot a n) E x e (e1 (isExD [m]) (eV i)) :=
  h.wk fun σ H Q ⟨F, ρ, s, o, mm⟩ => by
    have mm := hd_bind mm
    cases hl : look ρ i with
    | no => rw [eV, hl] at mm; exact False.elim mm
    | ex c => unfold look at hl; split at hl <;> cases hl
    | ok d =>
      rw [eV, hl] at mm
      obtain ⟨v, h1, h2, _⟩ := o.2 i d (look_ok hl)
      have mm : Hd (E σ) (W.hot a n) H (isExD [m] d) _ := mm
      unfold isExD at mm
      cases q : asX d with
      | none => rw [q] at mm; exact False.elim mm
      | some k =>
        rw [q] at mm
        obtain ⟨a', rfl, h4⟩ := asX_exn h2 q
        cases h4
        refine ⟨.ref a, h1, c, cv, excSub n m, rfl, hc, hk, ?_⟩
        have fin := mm (.bl ([m].any fun m => excSub n m)) H F (Same.refl H) (Ext.refl F H) s (.bl _)
        simpa using fin
theorem ve_isET {cvs : List V} {us : List Value} {ms : List Nat} (h : PE X e (tCB (rIsET X.K (W.ea n) a) (tCons (tVar i) (tCons (fun σ H Q => cvs.length ≤ sizeLine ∧ ∀ p, H p = none → Q (.ref p) (upd H p (.tup cvs))) tNil)))) (hc : Paired ClsV cvs us) (hk : PySem.W.kitAny X.K (.ref (W.ea n)) us = some (ms.any fun m => excSub n m)) (hl : Nat.ble cvs.length 5 = true := by rfl) (hi : i ∉ x := by decide) : VE X (W.hot a n) E x e (e1 (isExD ms) (eV i)) :=
  h.wk fun σ H Q ⟨F, ρ, s, o, mm⟩ => by
    have mm := hd_bind mm
    cases hl2 : look ρ i with
    | no => rw [eV, hl2] at mm; exact False.elim mm
    | ex c => unfold look at hl2; split at hl2 <;> cases hl2
    | ok d =>
      rw [eV, hl2] at mm
      obtain ⟨v, h1, h2, _⟩ := o.2 i d (look_ok hl2)
      have mm : Hd (E σ) (W.hot a n) H (isExD ms d) _ := mm
      unfold isExD at mm
      cases q : asX d with
      | none => rw [q] at mm; exact False.elim mm
      | some k =>
        rw [q] at mm
        obtain ⟨a', rfl, h4⟩ := asX_exn h2 q
        cases h4
        exact ⟨.ref a, h1, Nat.le_trans (Nat.le_of_ble_eq_true hl) (by decide), fun p hp => ⟨p, cvs, us, ms.any fun m => excSub n m, rfl, upd_same, hc, hk, mm _ _ F (same_upd hp) (Ext.refl F H) (s.trans (same_upd hp)) (.bl _)⟩⟩
end
/-- a tuple of classes, laid -/
theorem pe_clsT {X : Cx} {es : List Expr} {k : Nat} {pos : Pos} {cvs : List V} {t : TA} (h : PE X (.Tuple es k pos) (tTup t)) (e : ∀ σ H Q, Q cvs H → t σ H Q) : PE X (.Tuple es k pos) (fun σ H Q => cvs.length ≤ sizeLine ∧ ∀ p, H p = none → Q (.ref p) (upd H p (.tup cvs))) :=
  h.wk fun σ H Q q => e σ H _ q

/-! ### tuple + tuple -/
theorem o2_catT {K : PySem.W.Frag} : Op2 K (rCatT K) catTD := fun W E F H x y d1 d2 Q s r1 r2 m => by
  cases r1 with
  | @tup a xs ds h1 h2 =>
    cases r2 with
    | @tup b ys es h3 h4 =>
      have m : Hd E W H (if ds.length + es.length ≤ big ∧ ds ≠ [] ∧ es ≠ [] then R.ok (.tuple (ds ++ es)) else .no) (VPost K W F H Q) := m
      by_cases z : ds.length + es.length ≤ big ∧ ds ≠ [] ∧ es ≠ []
      · rw [if_pos z] at m
        have l1 := h2.len
        have l2 := h4.len
        have n1 : xs ≠ [] := fun e => by subst e; exact z.2.1 (List.eq_nil_of_length_eq_zero l1.symm)
        have n2 : ys ≠ [] := fun e => by subst e; exact z.2.2 (List.eq_nil_of_length_eq_zero l2.symm)
        exact ⟨a, b, xs, ys, rfl, rfl, sqt_mono s h1, sqt_mono s h3, n1, by rw [l1, l2]; exact Nat.le_trans z.1 big_le, fun e => (n2 e).elim, fun _ p hp =>
          m _ _ (upd F p (.tup (xs ++ ys))) (same_upd hp) (Ext.one hp s) (same_upd2 s) (.tup (SqT.of upd_same) ((h2.app h4).up (Ext.one hp s).up))⟩
      · rw [if_neg z] at m; exact False.elim m
    | _ => exact False.elim m
  | _ => cases r2 <;> exact False.elim m
end Vx

namespace Vx
open PySem L2 PyProof.Rows
theorem kit_ref {K : PySem.W.Frag} {D' C : Addr} {b : Bool} (ht : PySem.W.typeIn K (.ref C) = some (.type "type")) (hd : PySem.W.hasDictIn K C = true) (hs : PySem.W.subIn K (.ref D') (.ref C) = some b) (hb : b = true ∨ (Value.ref D' == Value.ref C) = false) : PySem.W.kitOne K (.ref D') (.ref C) = some b := by
  have hc : (PySem.W.clsIn K C).isSome = true := by
    unfold PySem.W.hasDictIn at hd
    cases q : PySem.W.clsIn K C with
    | none => rw [q] at hd; cases hd
    | some z => rfl
  have e2 : ((PySem.W.clsIn K C).isSome && PySem.W.typeIn K (.ref C) == some (.type "type")) = true := by rw [hc, ht]; rfl
  unfold PySem.W.kitOne
  by_cases z : (Value.ref D' == Value.ref C) = true
  · rw [if_pos z]
    rcases hb with hb | hb
    · rw [hb]
    · rw [hb] at z; cases z
  · rw [if_neg z]
    show (if ((PySem.W.clsIn K C).isSome && PySem.W.typeIn K (.ref C) == some (.type "type")) = true then PySem.W.subIn K (.ref D') (.ref C) else none) = some b
    rw [if_pos e2]
    exact hs
theorem kit_vE {K : PySem.W.Frag} {D' : Addr} (hs : PySem.W.subIn K (.ref D') (.type "ValueError") = some true) : PySem.W.kitOne K (.ref D') (.type "ValueError") = some true := by
  have m : PySem.W.kitMeta "ValueError" = true := by decide +kernel
  unfold PySem.W.kitOne
  rw [if_neg (by intro z; cases z)]
  show (if PySem.W.kitMeta "ValueError" = true then PySem.W.subIn K (.ref D') (.type "ValueError") else none) = some true
  rw [if_pos m]
  exact hs
end Vx

set_option Elab.async false
set_option linter.all false
set_option maxRecDepth 100000
set_option maxHeartbeats 4000000
/-! VW11: list(reversed(xs)), list(range(n)). -/
namespace Vx
open PySem PySem.Spec PyProof.Rows L2
abbrev emptyL : Obj := { cls := .type "list", data := .seq #[] }
section
variable {pr : Program} {w : World} {A : Around} {E : Value → Shared → Prop} {s : Shared}
theorem ext_rev {R : Result → Shared → Prop} {it l S : Addr} {xs : Array Value} (hh : A.handled = none)
    (hi : s.heap.IsRevIter it l ((xs.size : Int) - 1)) (hl : s.heap.IsList l xs) (li : l ≠ it) (Si : S ≠ it) (Sl : S ≠ l) (hn : xs.size ≤ sizeLine) (res : Value) (c₀ : Nat)
    (hS : s.heap.get? S = some { cls := .type "list", data := .seq #[] c₀ })
    (hR : ∀ h' tk acc c', (∀ b o, b ≠ S → b ≠ it → s.heap.get? b = some o → h'.get? b = some o) → h'.get? S = some { cls := .type "list", dict := none, data := .seq acc c', slots := #[] } →
      ItemsOf (fun i v => xs[xs.size - 1 - i]? = some v) acc xs.size → R (.ok (.ret res)) { s with heap := h', toks := tk }) :
    wpAny (model pr w) A.in1 (Builtin.List.listExtendWith (.ref S) (.ref it) res)
      (fun fin s' => match fin with
        | .done f => R (.ok f) s'
        | .again c' => c'.quiet = true ∧ codeAny (model pr w) A c' R s') (fun e s' => R (.error e) s') s := by
  have W := (Walks.listRev (prog := pr) (w := w) (A := A.in1) hh it l li xs).toS
  have no : S ∉ [it, l] := by simp [Si, Sl]
  have ty : s.TypeIs (.ref it) "list_reverseiterator" := Heap.IsRevIter.typeIs hi
  have ns : Builtin.List.listSameRef (.ref S) (.ref it) = false := by simp [Builtin.List.listSameRef, Si]
  unfold Builtin.List.listExtendWith
  refine wpAny_bind (wpAny_typeOf ty ?_)
  rw [if_neg (by rw [ns]; decide)]
  refine wpAny_bind (wpAny_pyIter_revIter hi ?_)
  refine wpAny_bind (wpAny_holding ?_)
  unfold Builtin.List.listLengthHint
  refine wpAny_bind (wpAny_specialOf ty RT.nolen_lri ?_)
  show wpAny _ A.in1 (specialOf (Value.ref it) (Str.ofString "__length_hint__") >>= _) _ _ _
  refine wpAny_bind (wpAny_specialOf ty RT.hint_lri ?_)
  generalize hid : ("list_reverseiterator.__length_hint__" : String) = idn
  wp_delta
  rw [show splitId idn = some ("list_reverseiterator", "__length_hint__") from by subst hid; decide +kernel]
  subst hid
  refine wpAny_bind (wpAny_isInstance (b := true) ty (by rw [isSubtype_type]; kernel_rfl) ?_)
  refine wpAny_pure ?_
  rw [if_neg (by decide)]
  have z0 : ((xs.size : Nat) : Int) - 1 - ((0 : Nat) : Int) = (xs.size : Int) - 1 := by omega
  refine wpAny_pure ⟨plainId_quiet F.plain_extend_loop _, codeAny_extend_loopS W hn S no res xs.size 0 _ _ _ rfl (Nat.zero_le _) ⟨Nat.zero_le _, by rw [z0]; exact hi, hl⟩ hS (ItemsOf.nil _) fun s' acc c' hm q hacc => ?_⟩
  rw [Moved.eq_with hm]
  refine hR s'.heap s'.toks acc c' (fun b o b1 b2 e => hm.heap b o (fun m => ?_) e) q hacc
  rcases List.mem_cons.mp m with z | m
  · exact b1 z
  · exact b2 (List.mem_singleton.mp m)
theorem init_rev {R : Result → Shared → Prop} {it l S : Addr} {xs : Array Value} (hh : A.handled = none)
    (hi : s.heap.IsRevIter it l ((xs.size : Int) - 1)) (hl : s.heap.IsList l xs) (li : l ≠ it) (Si : S ≠ it) (Sl : S ≠ l) (hn : xs.size ≤ sizeLine)
    (hS : s.heap.get? S = some emptyL)
    (hR : ∀ h' tk acc c', (∀ b o, b ≠ S → b ≠ it → s.heap.get? b = some o → h'.get? b = some o) → h'.get? S = some { cls := .type "list", dict := none, data := .seq acc c', slots := #[] } →
      ItemsOf (fun i v => xs[xs.size - 1 - i]? = some v) acc xs.size → R (.ok (.ret .none)) { s with heap := h', toks := tk }) :
    wpAny (model pr w) A.in1 (Builtin.«list.__init__» ⟨[.ref S, .ref it], []⟩)
      (fun fin s' => match fin with
        | .done f => R (.ok f) s'
        | .again c' => c'.quiet = true ∧ codeAny (model pr w) A c' R s') (fun e s' => R (.error e) s') s := by
  show wpAny _ _ (do
    let old ← Builtin.List.listItems (.ref S)
    Builtin.List.listUpdate (.ref S) (fun _ => #[])
    letGo old.toList.reverse
    Builtin.List.listExtendWith (.ref S) (.ref it) .none) _ _ s
  refine wpAny_bind ?_
  unfold Builtin.List.listItems
  refine wpAny_bind (wpAny_seqItems hS rfl (wpAny_pure ?_))
  show wpAny _ _ (updateSeq S (fun _ => #[]) >>= fun _ =>
    letGo (#[] : Array Value).toList.reverse >>= fun _ => Builtin.List.listExtendWith (.ref S) (.ref it) .none) _ _ s
  refine wpAny_bind (wpAny_updateSeq hS rfl ?_)
  have h2 := Heap.get?_update_self (Obj.mapSeq (fun _ => (#[] : Array Value))) hS rfl
  have ot : ∀ b o, b ≠ S → s.heap.get? b = some o → (s.heap.update S (Obj.mapSeq (fun _ => (#[] : Array Value)))).get? b = some o :=
    fun b o nb e => (Heap.get?_update_other _ _ (Ne.symm nb)).trans e
  refine wpAny_bind (wpAny_letGo ?_)
  have hl2 : (s.heap.update S (Obj.mapSeq (fun _ => (#[] : Array Value)))).IsList l xs := by
    obtain ⟨o, ho, r⟩ := hl
    exact ⟨o, ot l o (Ne.symm Sl) ho, r⟩
  refine ext_rev (s := { s with heap := s.heap.update S (Obj.mapSeq (fun _ => (#[] : Array Value))) }) hh (hi.at fun o e => ot it o (Ne.symm Si) e) hl2 li Si Sl hn .none _ h2 fun h' tk acc c' hk q hacc => ?_
  exact hR h' tk acc c' (fun b o b1 b2 e => hk b o b1 b2 (ot b o b1 e)) q hacc
theorem list_rev {Q : Value → Shared → Prop} {it l : Addr} {xs : Array Value} (hh : A.handled = none)
    (hi : s.heap.IsRevIter it l ((xs.size : Int) - 1)) (hl : s.heap.IsList l xs) (li : l ≠ it) (hn : xs.size ≤ sizeLine)
    (hQ : ∀ h' tk acc c', (∀ b o, b ≠ it → s.heap.get? b = some o → h'.get? b = some o) → h'.get? s.heap.objs.size = some { cls := .type "list", dict := none, data := .seq acc c', slots := #[] } →
      ItemsOf (fun i v => xs[xs.size - 1 - i]? = some v) acc xs.size → Q (.ref s.heap.objs.size) { s with heap := h', toks := tk }) :
    wpAny (model pr w) A (call (.type "list") [.ref it]) Q E s := by
  refine callType_codes (Q₁ := fun ob s₁ => ob = .ref s.heap.objs.size ∧ s₁ = { s with heap := s.heap.push emptyL }) F.called_list
    (F.typeCall_list_1 _) F.entry_list_init (code_list_new _ ⟨rfl, rfl⟩) fun ob s₁ h₁ => ?_
  obtain ⟨rfl, rfl⟩ := h₁
  have hS : (s.heap.push emptyL).get? s.heap.objs.size = some emptyL := Heap.get?_push_size _ rfl
  obtain ⟨oi, hoi, _⟩ := id hi
  obtain ⟨ol, hol, _⟩ := id hl
  refine ⟨⟨_, hS, rfl⟩, F.args_list_init_2 _ _, init_rev (A := A.in1) hh (hi.at fun o e => Heap.get?_push_of_some _ e) (hl.push _) li (Nat.ne_of_gt (Heap.lt_size hoi)) (Nat.ne_of_gt (Heap.lt_size hol)) hn hS fun h' tk acc c' hk q hacc => ?_⟩
  exact ⟨rfl, hQ h' tk acc c' (fun b o nb e => hk b o (Nat.ne_of_lt (Heap.lt_size e)) nb (Heap.get?_push_of_some _ e)) q hacc⟩
end

/-! ### the rules -/
theorem RpA.snoc {K : PySem.W.Frag} {C : Rc} {H : Hp} : ∀ {vs : List V} {ds : List D}, RpA K C H vs ds → RpA K C H vs.reverse ds.reverse
  | _, _, .nil => .nil
  | _, _, .cons h t => by
    rw [List.reverse_cons, List.reverse_cons]
    exact (RpA.snoc t).app (.cons h .nil)
def tLstRev (K : PySem.W.Frag) (te : TE) : TE := fun σ H Q => te σ H fun v H1 =>
  ∃ (a : Addr) (xs : List V), v = .ref a ∧ SqL K H1 a xs ∧ ∀ q, H1 q = none → Q (.ref q) (upd H1 q (.lst xs.reverse))
section
variable {X : Cx} {W : Vp} {E : L2.St → XK} {x : List Nat} {g : EF} {e : Expr}
theorem pe_lstRev {te : TE} {p p2 pos pos2 : Pos} (hc : X.calm = true) (hg : Gl X "list") (hm : X.mg "list" = none) (hg2 : Gl X "reversed") (hm2 : X.mg "reversed" = none) (he : PE X e te)
    (z1 : starEach [e] X.env = (false, eval e X.env) :: starEach [] X.env := by rfl)
    (z2 : starEach [.Call (.Name "reversed" p2) [e] [] pos2] X.env = (false, eval (.Call (.Name "reversed" p2) [e] [] pos2) X.env) :: starEach [] X.env := by rfl) :
    PE X (.Call (.Name "list" p) [.Call (.Name "reversed" p2) [e] [] pos2] [] pos) (tLstRev X.K te) := by
  refine ⟨fun pins s σ H Q I h => ?_⟩
  refine Call_ (ld_blt I hg hm boot_list (PyProof.Rows.callWith_type1 (args_cons (Call_ (ld_blt I hg2 hm2 PyProof.Rows.boot_reversed
    (PyProof.Rows.callWith_type1 (args_cons (thn (he.run pins s σ H _ I h) fun u s1 ⟨v, H1, I1, r1, q1⟩ => args_nil ?_) z1) z1 rfl))) z2) z2 rfl))
  obtain ⟨a, xs, ev, hq, q⟩ := q1
  subst ev
  obtain rfl : u = Value.ref a := r1
  obtain ⟨its, rv, pl, hz⟩ := I1.list hq
  refine call_reversed_list pl.isList (args_nil ?_)
  have hl := pl.isList
  obtain ⟨ol, hol, _⟩ := id hl
  have ne : a ≠ s1.heap.objs.size := Nat.ne_of_lt (Heap.lt_size hol)
  have hn : its.toArray.size ≤ sizeLine := by rw [List.size_toArray, ← rv.length]; exact hz
  refine list_rev (s := { s1 with heap := s1.heap.push (revObj a ((its.toArray.size : Int) - 1)) }) (I1.ok.hd hc) ⟨_, Heap.get?_push_size _ rfl, rfl, rfl⟩ (hl.push _) ne hn fun h' tk acc c' hk w0 hi => ?_
  have k : ∀ b u, s1.heap.get? b = some u → h'.get? b = some u := fun b u e => hk b u (Nat.ne_of_lt (Heap.lt_size e)) (Heap.get?_push_of_some _ e)
  have up : s1.heap.objs.size ≤ (s1.heap.push (revObj a ((its.toArray.size : Int) - 1))).objs.size := by simp [Heap.push]
  refine ⟨.ref (s1.heap.push (revObj a ((its.toArray.size : Int) - 1))).objs.size, upd H1 _ (.lst xs.reverse), I1.laid (t' := tk) k up (show ObjOk X.prog X.w _ _ _ (.lst xs.reverse) from ⟨by rw [List.length_reverse]; exact hz, acc.toList, c', RT.vals_rev rv hi, ?_⟩), rfl, q _ (I1.hok.fresh up)⟩
  rw [Array.toArray_toList]
  exact w0
def revD : D → R D
  | .list xs => .ok (.list xs.reverse)
  | _ => .no
theorem vn_rev {p p2 pos pos2 : Pos} (hc : X.calm = true) (hg : Gl X "list") (hm : X.mg "list" = none) (hg2 : Gl X "reversed") (hm2 : X.mg "reversed" = none) (he : VE X W E x e g)
    (z1 : starEach [e] X.env = (false, eval e X.env) :: starEach [] X.env := by rfl)
    (z2 : starEach [.Call (.Name "reversed" p2) [e] [] pos2] X.env = (false, eval (.Call (.Name "reversed" p2) [e] [] pos2) X.env) :: starEach [] X.env := by rfl) :
    VN X W E x (.Call (.Name "list" p) [.Call (.Name "reversed" p2) [e] [] pos2] [] pos) (e1 revD g) :=
  (pe_lstRev hc hg hm hg2 hm2 he z1 z2).wk fun σ H Q ⟨F, ρ, s, o, m⟩ => ⟨F, ρ, s, o, (hd_bind m).imp fun d m1 v H1 F1 s1 x1 f1 r1 => by
    cases r1 with
    | lst h1 h2 => exact ⟨_, _, rfl, sqr_l (sqr_mono f1 h1), fun p hp => m1 p _ _ _ F1 rfl (s1.trans (same_upd hp)) x1 (f1.trans (same_upd hp)) (none_back s1 hp) (none_back f1 hp) upd_same h2.snoc⟩
    | _ => exact False.elim m1⟩
/-- list(range(n)) -/
def lrgD : D → R D
  | .int n => if 0 ≤ n ∧ n ≤ 100000 then .ok (.list (rangeD 0 n)) else .no
  | _ => .no
theorem rg_ints {K : PySem.W.Frag} {C : Rc} {H : Hp} (a b : Int) : RpA K C H (rgV a b) (rangeD a b) := by
  unfold rgV rangeD
  generalize List.range (b - a).toNat = l
  induction l with
  | nil => exact .nil
  | cons k r ih => exact .cons (.int _) ih
theorem vn_lrg {p p2 pos pos2 : Pos} (hc : X.calm = true) (hg : Gl X "list") (hm : X.mg "list" = none) (hg2 : Gl X "range") (hm2 : X.mg "range" = none) (he : VE X W E x e g)
    (z1 : starEach [e] X.env = (false, eval e X.env) :: starEach [] X.env := by rfl)
    (z2 : starEach [.Call (.Name "range" p2) [e] [] pos2] X.env = (false, eval (.Call (.Name "range" p2) [e] [] pos2) X.env) :: starEach [] X.env := by rfl) :
    VN X W E x (.Call (.Name "list" p) [.Call (.Name "range" p2) [e] [] pos2] [] pos) (e1 lrgD g) :=
  (pe_listRg hc hg hm (prg_1 hg2 hm2 he z1) z2).wk fun σ H Q ⟨F, ρ, s, o, m⟩ => ⟨F, ρ, s, o, (hd_bind m).imp fun d m1 v H1 F1 s1 x1 f1 r1 => by
    cases r1 with
    | int n =>
      by_cases z : 0 ≤ n ∧ n ≤ 100000
      · have m2 := m1
        simp only [lrgD, if_pos z] at m2
        exact ⟨n, rfl, RgOk.of_le (by omega) (by omega) (by omega) (by omega), fun p hp => m2 p _ _ _ F1 rfl (s1.trans (same_upd hp)) x1 (f1.trans (same_upd hp)) (none_back s1 hp) (none_back f1 hp) upd_same (rg_ints 0 n)⟩
      · simp only [lrgD, if_neg z] at m1
        exact False.elim m1
    | _ => exact False.elim m1⟩
end
end Vx

set_option Elab.async false
set_option linter.all false
set_option maxRecDepth 100000
set_option maxHeartbeats 4000000
/-! VW12: enumerate(a tuple). -/
namespace Vx
open PySem PySem.Spec PyProof.Rows L2
open AutoSeq1 (wpAny_loadPart')
theorem meets_enum1 {v : Value} {o : Obj} {Hc : Heap → Prop} (B : Begins v o Hc) :
    Meets (Builtin.«enumerate.__new__» ⟨[.type "enumerate", v], []⟩) (fun _ R s => Hc s.heap ∧
      R (.ok (.ret (.ref (s.heap.push o).objs.size)))
        { s with heap := (s.heap.push o).push { cls := .type "enumerate", data := .fields #[.none, .bool false, .ref s.heap.objs.size, rawInt 0, .none, .none] } }) :=
  .of_wp fun pr w A R s hh => by
    obtain ⟨hp, g, d, tk, os⟩ := s
    obtain ⟨b0, z⟩ := hh
    have hsub := sub_enumerate
    have it : ∀ {A' : Around} {E : Value → Shared → Prop} {Q : Value → Shared → Prop}, Q (.ref hp.objs.size) ⟨hp.push o, g, d, tk, os⟩ → wpAny (model pr w) A' (pyIter v) Q E ⟨hp, g, d, tk, os⟩ :=
      fun q => B.iter pr w _ _ ⟨hp, g, d, tk, os⟩ _ b0 q
    wp_walk using it
    refine wpAny_stack_any fun st => wpAny_pure ?_
    split
    · rename_i c _ _ _ _ _
      cases (c == Value.type "enumerate")
      · wp_walk using it
        exact ⟨_, rfl, z⟩
      · wp_walk using it
        exact ⟨_, rfl, z⟩
    · wp_walk using it
      exact ⟨_, rfl, z⟩
section
variable {pr : Program} {w : World} {A : Around} {E : Value → Shared → Prop} {s : Shared}
theorem enum_one {v : Value} {o : Obj} {Hc : Heap → Prop} {Q : Value → Shared → Prop} (B : Begins v o Hc) (b0 : Hc s.heap)
    (h : ∀ h', IsEnum h' (s.heap.objs.size + 1) s.heap.objs.size 0 .none → h'.get? s.heap.objs.size = some o →
      (∀ b u, s.heap.get? b = some u → h'.get? b = some u) → Q (.ref (s.heap.objs.size + 1)) { s with heap := h' }) :
    wpAny (model pr w) A (call (.type "enumerate") [v]) Q E s := by
  refine callType_new F.called_enumerate (by decide) (F.typeCall_enumerate_1 _) (F.newCall_enumerate_1 _)
    (fun ob => F.args_object_init_2 ob _) F.entry_enumerate_new (meets_enum1 B) ⟨b0, ?_⟩
  have n1 : (s.heap.push o).objs.size = s.heap.objs.size + 1 := Heap.size_push ..
  show _ ∧ _
  rw [n1]
  have q : IsEnum ((s.heap.push o).push { cls := .type "enumerate", data := .fields #[.none, .bool false, .ref s.heap.objs.size, rawInt 0, .none, .none] }) (s.heap.objs.size + 1) s.heap.objs.size 0 .none := by
    have t := Heap.get?_push_size (s.heap.push o) (o := { cls := .type "enumerate", data := .fields #[.none, .bool false, .ref s.heap.objs.size, rawInt 0, .none, .none] }) rfl
    rw [n1] at t
    exact t
  exact ⟨⟨_, q, rfl⟩, h _ q (Heap.get?_push_of_some _ (Heap.get?_push_size _ B.free)) fun b u e => Heap.get?_push_of_some _ (Heap.get?_push_of_some _ e)⟩
end
/-- the tuple at a, each item in a new pair -/
def IteT (K : PySem.W.Frag) (a : Addr) : It where
  go i H := ∃ (xs : List V) (x : V), SqT K H a xs ∧ xs[i]? = some x
  yld i H v H' := ∃ T x, v = .ref T ∧ H T = none ∧ H' = upd H T (.tup [.int (i : Nat), x]) ∧ ∀ xs, SqT K H a xs → xs[i]? = some x
  stop i H := ∃ xs : List V, SqT K H a xs ∧ xs.length ≤ i
theorem walk_enumT {K : PySem.W.Frag} {a : Addr} {xs : List V} : Walk (IteT K a) xs.length (fun H => SqT K H a xs) (YPair (fun i => some (.int (i : Nat))) (fun i => xs[i]?)) where
  goes i _ hi q := ⟨xs, xs[i], q, by simp [hi]⟩
  stops _ q := ⟨xs, q, Nat.le_refl _⟩
  yields i H v H' _ q y := by
    obtain ⟨T, x, h1, h2, h3, h4⟩ := y
    exact ⟨T, .int (i : Nat), x, h1, h2, h3, rfl, h4 xs q⟩
theorem turn_enumT {P : Program} {w : World} {K : PySem.W.Frag} {elts : List Expr} {kk : Nat} {tp : Pos} (a e it : Addr) :
    Turn P w K (.Tuple elts kk tp) (IteT K a) [e, it] e (fun i h => (∃ old, IsEnum h e it ((i : Nat) : Int) old) ∧ h.IsTupleIter it a i ∧ e ≠ it) where
  mem := by simp
  obj i h st b hb := by
    obtain ⟨⟨old, he⟩, ⟨o, ho, hc, hd⟩, _⟩ := st
    have z : b = e ∨ b = it := by simpa using hb
    rcases z with z | z
    · rw [z]; exact ⟨_, he, fun v q => nomatch q⟩
    · rw [z]; exact ⟨o, ho, fun v q => by rw [hd] at q; cases q⟩
  keep i h h' st k := by
    obtain ⟨⟨old, he⟩, hi, ne⟩ := st
    exact ⟨⟨old, k e (by simp) _ he⟩, hi.at fun o q => k it (by simp) o q, ne⟩
  item := by
    intro X hP hw hK hc i pins s σ H E I hf st hg
    subst hP hw hK
    obtain ⟨⟨old, he⟩, hit, ne⟩ := st
    obtain ⟨xs, x, hq, hx⟩ := hg
    obtain ⟨its, rv, p, hz⟩ := I.tuple hq
    obtain ⟨u0, hu0, ru0⟩ := rv.get hx
    have hel : e < s.heap.objs.size := Heap.lt_size he
    obtain ⟨oi, hoi, ci, di⟩ := id hit
    have hil : it < s.heap.objs.size := Heap.lt_size hoi
    obtain ⟨oa, hoa, ca, _⟩ := id p
    have nai : a ≠ it := fun z => by
      rw [z, hoi] at hoa
      cases hoa
      rw [ci] at ca
      simp at ca
    have nea : e ≠ a := fun z => by
      rw [← z] at hoa
      have : s.heap.get? e = some _ := he
      rw [this] at hoa
      cases hoa
      simp at ca
    have D := Draws.tuple (prog := X.prog) (w := X.w) (A := X.A.in1) (I.ok.hd hc) it a nai its.toArray
    have hlt : i < its.toArray.size := by
      have l := rv.length
      have := (List.getElem?_eq_some_iff.mp hx).1
      rw [List.size_toArray]
      omega
    refine wpAny_pyNext_enum_itemC D he ⟨hit, p⟩ hlt ne (by simp [ne, nea]) fun u h' tk hu ho st2 hT hsz hk => ?_
    have eu : u = u0 := by
      have h1 : its[i]? = some u := by simpa using hu
      rw [hu0] at h1
      exact (Option.some.inj h1).symm
    subst eu
    refine ⟨_, rfl, wpAny_letOwnedTupleGo_enum (s := { s with heap := h', toks := tk + 1 }) ho fun h2 he2 sb => ?_⟩
    have hT2 : h2.get? s.heap.objs.size = some { cls := .type "tuple", data := .seq #[.int i tk, u] } := (sb.2 _ (Nat.ne_of_gt hel)).trans hT
    have nw : ObjOk X.prog X.w (upd H s.heap.objs.size (.tup [.int (i : Nat), x])) h2 s.heap.objs.size (.tup [.int (i : Nat), x]) :=
      ⟨by show 2 ≤ sizeLine; decide, [.int i tk, u], .cons ⟨_, rfl⟩ (.cons ru0 .nil), ⟨_, hT2, rfl, _, rfl⟩⟩
    have I1 : Inv X pins σ (upd H s.heap.objs.size (.tup [.int (i : Nat), x])) { s with heap := h2, toks := tk + 1 } :=
      I.turnedNew (ch := [e, it]) (fun b ob hb q => (sb.2 b (fun z => hb (by simp [z]))).trans (hk b ob (fun z => hb (by simp [z])) (fun z => hb (by simp [z])) q)) hf (Nat.le_refl _) nw
    refine ⟨.ref s.heap.objs.size, _, I1, rfl, ⟨_, x, rfl, I.hok.fresh (Nat.le_refl _), rfl, fun ys hy => by rw [I.tuple_inj hy hq]; exact hx⟩, ⟨⟨u, ?_⟩, st2.1.at fun o q => (sb.2 it (Ne.symm ne)).trans q, ne⟩, fun b hb => ?_⟩
    · rw [show ((i + 1 : Nat) : Int) = (i : Int) + 1 by omega]
      exact he2
    · have hb' : b < s.heap.objs.size := by
        have z : b = e ∨ b = it := by simpa using hb
        rcases z with z | z
        · rw [z]; exact hel
        · rw [z]; exact hil
      rw [upd_ne (Nat.ne_of_lt hb')]
      exact (hf b hb).1
  done := by
    intro X hP hw hK hc i pins s σ H E I hf st hg
    subst hP hw hK
    obtain ⟨⟨old, he⟩, hit, ne⟩ := st
    obtain ⟨xs, hq, hx⟩ := hg
    obtain ⟨its, rv, p, hz⟩ := I.tuple hq
    obtain ⟨f0, f1, f2, f3, f4, f5⟩ := hf it (by simp)
    have hl := rv.length
    have D : Draws X.prog X.w X.A.in1 it [it, a] 0 (fun _ _ => False) (fun _ h => h.IsTupleIter it a i ∧ h.IsTuple a its.toArray) :=
      ⟨fun _ _ st => let ⟨o, ho, _⟩ := st.1; ⟨o, ho⟩, fun _ _ _ st hk => ⟨st.1.at fun o e => hk it (by simp) o e, st.2.at fun o e => hk a (by simp) o e⟩,
        fun i s Q E hi _ _ => absurd hi (Nat.not_lt_zero _), fun s Q E st hE => wpAny_nextOf_tuple_end (I.ok.hd hc) st.1 st.2 (by simp; omega) hE⟩
    exact wpAny_pyNext_enum_endD D he ⟨hit, p⟩ fun h' eb => ⟨rfl, I.turned (t' := s.toks) (fun b o hb q => eb b o hb q) f0 f1 f3 f4 f5⟩
  self A i s Q E st h := by
    obtain ⟨⟨_, he⟩, _⟩ := st
    exact wpAny_pyIter_enum he h
def iEnumT (K : PySem.W.Frag) (ta : TA) : TI := fun σ H R => ta σ H fun vs H1 => ∃ a xs, vs = [.ref a] ∧ SqT K H1 a xs ∧ R (IteT K a) H1
theorem pi_enumT {X : Cx} {e : Expr} {ta : TA} {p pos tp : Pos} {elts : List Expr} {kk : Nat} (hg : Gl X "enumerate") (hm : X.mg "enumerate" = none) (ha : PA X [e] ta)
    (hs : starEach [e] X.env = [(false, eval e X.env)] := by rfl) : PI X (.Tuple elts kk tp) (.Call (.Name "enumerate" p) [e] [] pos) (iEnumT X.K ta) := by
  refine ⟨fun pins s σ H R I h => ?_⟩
  refine Call_ (ld_blt I hg hm boot_enumerate (PyProof.Rows.callWith_type1
    (thn (ha.run pos pins s σ H _ I h) fun us s1 ⟨vs, H1, I1, r1, q1⟩ => ?_) hs rfl))
  obtain ⟨a, xs, ex, hq, q⟩ := q1
  subst ex
  cases r1 with
  | cons r rr =>
    cases rr
    cases r
    obtain ⟨its, rv, pt, hz⟩ := I1.tuple hq
    refine enum_one (begins_tuple a its.toArray) pt fun h' he hi hk => wpAny_pyIter_enum he ?_
    have I2 : Inv X pins σ H1 { s1 with heap := h' } := I1.kept (t' := s1.toks) hk
    refine ⟨s1.heap.objs.size + 1, [s1.heap.objs.size + 1, s1.heap.objs.size], _, _, H1, rfl, I2, turn_enumT a (s1.heap.objs.size + 1) s1.heap.objs.size, ⟨⟨.none, he⟩, ⟨_, hi, rfl, rfl⟩, Nat.succ_ne_self _⟩, fun b hb => ?_, q⟩
    have le : s1.heap.objs.size ≤ b := by
      have z : b = s1.heap.objs.size + 1 ∨ b = s1.heap.objs.size := by simpa using hb
      rcases z with z | z
      · rw [z]; exact Nat.le_add_right _ _
      · rw [z]; exact Nat.le_refl _
    exact I1.fpOk le (I1.hok.fresh le)
def iEnuT (a : AF) : AF := fun ρ => (a ρ).bind fun xs => match xs with
  | [.tuple ds] => .ok (enumD 0 ds)
  | _ => .no
theorem vi_enumT {X : Cx} {W : Vp} {E : L2.St → XK} {x : List Nat} {e : Expr} {gA : AF} {tp : Pos} {elts : List Expr} {kk : Nat} (h : PI X (.Tuple elts kk tp) e (iEnumT X.K (tA X.K W E x gA))) : VI X W E x (.Tuple elts kk tp) e (iEnuT gA) :=
  h.wk fun σ H RR ⟨F, ρ, s, o, m⟩ => ⟨F, ρ, s, o, (hd_bind m).imp fun ds m1 vs H1 F1 s1 x1 f1 r1 => by
    rcases one_of r1 with ⟨v, d, rfl, rfl, r⟩ | z
    · cases r with
      | tup h1 h2 =>
        rename_i q xs es
        refine ⟨q, xs, rfl, sqt_mono f1 h1, m1 _ H1 F1 _ _ s1 x1 f1 (by rw [enumD_len, ← h2.len]; exact walk_enumT (K := X.K) (a := q) (xs := xs)) (fun H2 z => sqt_mono z h1) fun i Ha v Hb Fa hi y z1 z2 => ?_⟩
        obtain ⟨T, y1, y2, e1, e2, e3, e4, e5⟩ := y
        cases e4
        obtain ⟨d, q1, q2⟩ := h2.getV e5
        subst e1; subst e3
        refine ⟨_, upd Fa T (.tup [.int (i : Nat), y2]), enumD_get 0 es i d q1, same_upd e2, Ext.one e2 z2, same_upd2 z2, ?_⟩
        rw [Nat.zero_add]
        exact .tup (SqT.of upd_same) (.cons (.int _) (.cons ((q2.up z1).up (Ext.one e2 z2).up) .nil))
      | _ => exact False.elim m1
    · exfalso
      cases ds with
      | nil => exact m1
      | cons a r =>
        cases r with
        | nil => exact z a rfl
        | cons b r => cases a <;> exact m1⟩
end Vx

set_option Elab.async false
set_option linter.all false
set_option maxRecDepth 100000
set_option maxHeartbeats 4000000
/-! printed by gen_law.py for k02: the functions on data -/
namespace Lw
open PySem Vx
noncomputable def b_check_indexes : SF :=
  (sFor (iEnuT (aC (eV 0) aN)) (gT 2 (gsC (gN 2) (gsC (gN 3) gsN)))
    (sIf (tOr (tNo (tB (eCh (eC (.int 0)) (cLink leD (eV 3) (cLast ltD (eV 1)))))) (tAn (tB (e2 gtD (eV 2) (eC (.int 0)))) (tB (e2 geD (e2 ixD (eV 0) (e2 subD (eV 2) (eC (.int 1)))) (eV 3)))))
      (sRai 2)
      sNop))
noncomputable def f_check_indexes : List D → R D := fnF 4 b_check_indexes

noncomputable def b_check_state : SF :=
  (sSeq (sAsg (gT 3 (gsC (gN 2) (gsC (gN 3) (gsC (gN 4) gsN)))) (eV 1))
  (sSeq (sDo (eF f_check_indexes (aC (eV 2) (aC (eF fLen (aC (e2 ixD (eV 0) (eC (.int 1))) aN)) aN))))
  (sSeq (sDo (eF f_check_indexes (aC (eV 3) (aC (eF fLen (aC (e2 ixD (eV 0) (eC (.int 2))) aN)) aN))))
  (sDo (eF f_check_indexes (aC (eV 4) (aC (eF fLen (aC (e2 ixD (eV 0) (eC (.int 3))) aN)) aN)))))))
noncomputable def f_check_state : List D → R D := fnF 5 b_check_state

noncomputable def b_is_full : SF :=
  (sRet (e2 eqD (eF fLen (aC (e2 ixD (eV 1) (eC (.int 2))) aN)) (eF fLen (aC (e2 ixD (eV 0) (eC (.int 3))) aN))))
noncomputable def f_is_full : List D → R D := fnF 2 b_is_full

noncomputable def b_law_cell : SF :=
  (sSeq (sIf (tB (e2 ltD (eV 1) (eF fLen (aC (eV 0) aN))))
    (sRet (eF fInt (aC (e2 ixD (eV 0) (eV 1)) aN)))
    sNop)
  (sRet (eC (.int 0))))
noncomputable def f_law_cell : List D → R D := fnF 2 b_law_cell

noncomputable def b_law_draws : SF :=
  (sSeq (sSet 2 (eLst aN))
  (sSeq (sSet 3 (eF fAbs (aC (eF fInt (aC (eV 0) aN)) aN)))
  (sSeq (sSet 4 (e2 modD (eF fInt (aC (eV 3) aN)) (eC (.int 2147483647))))
  (sSeq (sSet 5 (eOr (e2 ltD (eV 0) (eC (.int 0))) (e2 geD (eV 0) (e2 powD (eC (.int 10)) (eC (.int 18))))))
  (sSeq (sFor (iSeq (eV 1)) (gN 6)
    (sIf (tAn (tTr (eV 5)) (tB (e2 gtD (eV 3) (eC (.int 1)))))
      (sSeq (sApp 2 (e2 modD (eF fInt (aC (eV 3) aN)) (eV 6)))
      (sSet 3 (e2 divD (eV 3) (eV 6))))
      (sSeq (sSet 4 (e2 modD (eF fInt (aC (e2 addD (e2 mulD (eV 4) (eC (.int 48271))) (eC (.int 11))) aN)) (eC (.int 2147483647))))
      (sSeq (sSet 4 (e2 modD (eF fInt (aC (e2 addD (e2 mulD (eV 4) (eC (.int 69621))) (eC (.int 7))) aN)) (eC (.int 2147483647))))
      (sApp 2 (e2 modD (eF fInt (aC (e2 divD (eV 4) (eC (.int 13))) aN)) (eV 6)))))))
  (sRet (eV 2)))))))
noncomputable def f_law_draws : List D → R D := fnF 7 b_law_draws

noncomputable def b_law_net : SF :=
  (sSeq (sSet 3 (eF f_law_draws (aC (eV 0) (aC (eLst (aC (eV 2) (aC (eC (.int 7)) (aC (eC (.int 4)) (aC (eC (.int 4)) (aC (eC (.int 3)) aN)))))) aN))))
  (sSeq (sSet 4 (e2 addD (eC (.int 1)) (e2 ixD (eV 3) (eC (.int 0)))))
  (sSeq (sSet 5 (e2 eqD (e2 ixD (eV 3) (eC (.int 4))) (eC (.int 0))))
  (sSeq (sSet 6 (eLst aN))
  (sSeq (sSet 7 (eF f_law_draws (aC (eV 1) (aC (e2 repD (eLst (aC (e2 powD (eC (.int 10)) (eC (.int 6))) aN)) (eC (.int 15))) aN))))
  (sSeq (sFor (iRg1 (aC (e2 ixD (eV 3) (eC (.int 1))) aN)) (gN 8)
    (sSeq (sSet 11 (eF f_law_draws (aC (e2 ixD (eV 7) (eV 8)) (aC (eLst (aC (eV 4) (aC (eV 4) (aC (eC (.int 3)) (aC (eC (.int 12)) (aC (eC (.int 1000)) (aC (eC (.int 1001)) aN))))))) aN))))
    (sIf (tB (e2 neD (e2 ixD (eV 11) (eC (.int 0))) (e2 ixD (eV 11) (eC (.int 1)))))
      (sSeq (sSet 12 (eTup (aC (eF fMin2 (aC (e2 ixD (eV 11) (eC (.int 0))) (aC (e2 ixD (eV 11) (eC (.int 1))) aN))) (aC (eF fMax2 (aC (e2 ixD (eV 11) (eC (.int 0))) (aC (e2 ixD (eV 11) (eC (.int 1))) aN))) aN))))
      (sApp 6 (e2 catTD (eV 12) (e2 ixD (eLst (aC (eTup (aC (e2 addD (eC (.int 1)) (e2 ixD (eV 11) (eC (.int 2)))) (aC (e2 ixD (eV 11) (eC (.int 3))) aN))) (aC (eTup (aC (e2 addD (eC (.int 1)) (e2 ixD (eV 11) (eC (.int 4)))) (aC (e2 ixD (eV 11) (eC (.int 5))) aN))) aN))) (eF fInt (aC (eV 5) aN))))))
      sNop)))
  (sSeq (sSet 9 (eLst aN))
  (sSeq (sFor (iRg1 (aC (e2 ixD (eV 3) (eC (.int 2))) aN)) (gN 8)
    (sSeq (sSet 11 (eF f_law_draws (aC (e2 ixD (eV 7) (e2 addD (eC (.int 7)) (eV 8))) (aC (eLst (aC (eV 4) (aC (eC (.int 6)) (aC (eC (.int 12)) (aC (eC (.int 3)) (aC (eC (.int 1001)) (aC (eC (.int 1001)) aN))))))) aN))))
    (sSeq (sAsg (gT 2 (gsC (gN 13) (gsC (gN 14) gsN))) (e2 ixD (eLst (aC (eTup (aC (e2 ixD (eV 11) (eC (.int 1))) (aC (e2 addD (e2 ixD (eV 11) (eC (.int 1))) (e2 ixD (eV 11) (eC (.int 2)))) aN))) (aC (eTup (aC (eF fMin2 (aC (e2 ixD (eV 11) (eC (.int 4))) (aC (e2 ixD (eV 11) (eC (.int 5))) aN))) (aC (eF fMax2 (aC (e2 ixD (eV 11) (eC (.int 4))) (aC (e2 ixD (eV 11) (eC (.int 5))) aN))) aN))) aN))) (eF fInt (aC (eV 5) aN))))
    (sApp 9 (eTup (aC (e2 ixD (eV 11) (eC (.int 0))) (aC (eV 13) (aC (eV 14) (aC (e2 gtD (e2 ixD (eV 11) (eC (.int 3))) (eC (.int 0))) aN)))))))))
  (sSeq (sSet 10 (eLst aN))
  (sSeq (sFor (iRg1 (aC (e2 ixD (eV 3) (eC (.int 3))) aN)) (gN 8)
    (sSeq (sSet 11 (eF f_law_draws (aC (e2 ixD (eV 7) (e2 addD (eC (.int 11)) (eV 8))) (aC (eLst (aC (eV 4) (aC (eC (.int 9)) (aC (eC (.int 1000)) aN)))) aN))))
    (sApp 10 (eTup (aC (e2 ixD (eV 11) (eC (.int 0))) (aC (e2 ixD (eLst (aC (e2 addD (eC (.int 1)) (e2 ixD (eV 11) (eC (.int 1)))) (aC (e2 addD (eC (.int 1)) (e2 ixD (eV 11) (eC (.int 2)))) aN))) (eF fInt (aC (eV 5) aN))) aN))))))
  (sRet (eTup (aC (eV 4) (aC (eV 6) (aC (eV 9) (aC (eV 10) aN))))))))))))))))
noncomputable def f_law_net : List D → R D := fnF 15 b_law_net

noncomputable def b_law_some : SF :=
  (sSeq (sSet 3 (eF f_law_draws (aC (eV 0) (aC (e2 repD (eLst (aC (eC (.int 5)) aN)) (eV 1)) aN))))
  (sRet (eF fTuple (aC (eLc (iRg1 (aC (eV 1) aN)) (gN 4) (tB (e2 ltD (e2 ixD (eV 3) (eV 4)) (eV 2))) (eV 4) [4]) aN))))
noncomputable def f_law_some : List D → R D := fnF 5 b_law_some

noncomputable def b_law_state : SF :=
  (sSeq (sSet 2 (eF f_law_draws (aC (eV 0) (aC (eLst (aC (e2 powD (eC (.int 10)) (eC (.int 6))) (aC (e2 powD (eC (.int 10)) (eC (.int 6))) (aC (e2 powD (eC (.int 10)) (eC (.int 6))) (aC (eC (.int 4)) aN))))) aN))))
  (sSeq (sSet 3 (e2 ixD (eLst (aC (eC (.int 4)) (aC (eC (.int 3)) (aC (eC (.int 4)) (aC (eC (.int 2)) aN))))) (e2 ixD (eV 2) (eC (.int 3)))))
  (sRet (eTup (aC (eF f_law_some (aC (e2 ixD (eV 2) (eC (.int 0))) (aC (eF fLen (aC (e2 ixD (eV 1) (eC (.int 1))) aN)) (aC (eV 3) aN)))) (aC (eF f_law_some (aC (e2 ixD (eV 2) (eC (.int 1))) (aC (eF fLen (aC (e2 ixD (eV 1) (eC (.int 2))) aN)) (aC (eV 3) aN)))) (aC (eF f_law_some (aC (e2 ixD (eV 2) (eC (.int 2))) (aC (eF fLen (aC (e2 ixD (eV 1) (eC (.int 3))) aN)) (aC (eC (.int 2)) aN)))) aN)))))))
noncomputable def f_law_state : List D → R D := fnF 4 b_law_state

noncomputable def b_law_refused : SF :=
  (sSeq (sSet 2 (eF fRepr (aC (eLst (aC (eV 0) (aC (eV 1) aN))) aN)))
  (sSeq (sTry 3 [2] (eF f_check_state (aC (eV 0) (aC (eV 1) aN)))
    (sSeq (sSet 4 (eAn (e1 (isExD [0]) (eV 3)) (eAn (e1 (isExD [100]) (eV 3)) (eNo (e1 (isExD [1, 3]) (eV 3))))))
    (sRet (eAn (eV 4) (e2 eqD (eF fRepr (aC (eLst (aC (eV 0) (aC (eV 1) aN))) aN)) (eV 2))))))
  (sRet (eC (.bool false)))))
noncomputable def f_law_refused : List D → R D := fnF 5 b_law_refused

noncomputable def b_law : SF :=
  (sSeq (sSet 1 (eF f_law_net (aC (eF f_law_cell (aC (eV 0) (aC (eC (.int 0)) aN))) (aC (eF f_law_cell (aC (eV 0) (aC (eC (.int 1)) aN))) (aC (eC (.int 8)) aN)))))
  (sSeq (sSet 2 (eLst (aC (eF fLen (aC (e2 ixD (eV 1) (eC (.int 1))) aN)) (aC (eF fLen (aC (e2 ixD (eV 1) (eC (.int 2))) aN)) (aC (eF fLen (aC (e2 ixD (eV 1) (eC (.int 3))) aN)) aN)))))
  (sSeq (sFor (iSeq (e2 catD (eLst (aC (eC (.int 0)) (aC (eC (.int 1)) aN))) (eSl (eV 0) (oS (eC (.int 2))) (oS (eC (.int 8)))))) (gN 3)
    (sSeq (sSet 6 (eF f_law_state (aC (eV 3) (aC (eV 1) aN))))
    (sSeq (sSet 7 (eF fRepr (aC (eLst (aC (eV 1) (aC (eV 6) aN))) aN)))
    (sSeq (sSet 8 (eF f_is_full (aC (eV 1) (aC (eV 6) aN))))
    (sSeq (sIf (tOr (tB (e2 isNotNoneD (eF f_check_state (aC (eV 1) (aC (eV 6) aN))) (eC .none))) (tOr (tNo (tTr (e1 (isiD "bool") (eV 8)))) (tOr (tB (e2 neD (eV 8) (e2 eqD (eF fLen (aC (e2 ixD (eV 6) (eC (.int 2))) aN)) (eF fLen (aC (e2 ixD (eV 1) (eC (.int 3))) aN))))) (tB (e2 neD (eF fRepr (aC (eLst (aC (eV 1) (aC (eV 6) aN))) aN)) (eV 7))))))
      (sRet (eC (.bool false)))
      sNop)
    (sSeq (sSet 9 (eF f_law_draws (aC (eV 3) (aC (eLst (aC (eC (.int 1000)) (aC (eC (.int 12)) aN))) aN))))
    (sSeq (sSet 10 (e2 ixD (eV 9) (eC (.int 0))))
    (sFor (iRg1 (aC (eC (.int 3)) aN)) (gN 11)
      (sSeq (sSet 12 (eF fList (aC (e2 ixD (eV 6) (eV 11)) aN)))
      (sSeq (sSet 13 (e2 modD (eF fInt (aC (e2 ixD (eV 9) (eC (.int 1))) aN)) (e2 addD (eF fLen (aC (eV 12) aN)) (eC (.int 1)))))
      (sSeq (sSet 14 (eLst (aC (e2 catD (eV 12) (eLst (aC (e2 addD (e2 ixD (eV 2) (eV 11)) (eV 10)) aN))) (aC (e2 catD (eLst (aC (e2 subD (e1 negD (eC (.int 1))) (eV 10)) aN)) (eV 12)) (aC (e2 catD (eV 12) (eLst (aC (e2 powD (eC (.int 10)) (eC (.int 15))) aN))) (aC (e2 catD (eLst (aC (e1 negD (eC (.int 1))) aN)) (eV 12)) (aC (e2 catD (eV 12) (eLst (aC (e2 ixD (eV 2) (eV 11)) aN))) aN)))))))
      (sSeq (sIf (tB (e2 gtD (eF fLen (aC (eV 12) aN)) (eC (.int 0))))
        (sSeq (sSet 17 (e2 modD (eF fInt (aC (e2 ixD (eV 9) (eC (.int 1))) aN)) (eF fLen (aC (eV 12) aN))))
        (sSet 14 (e2 catD (eV 14) (eLst (aC (e2 catD (e2 catD (eSl (eV 12) oN (oS (eV 17))) (eLst (aC (e2 ixD (eV 12) (eV 17)) aN))) (eSl (eV 12) (oS (eV 17)) oN)) (aC (e2 catD (e2 catD (eSl (eV 12) (oS (eC (.int 1))) oN) (e2 repD (eSl (eV 12) oN (oS (eC (.int 1)))) (eF fInt (aC (e2 gtD (eF fLen (aC (eV 12) aN)) (eC (.int 1))) aN)))) (e2 repD (e2 repD (eSl (eV 12) oN (oS (eC (.int 1)))) (eC (.int 2))) (eF fInt (aC (e2 eqD (eF fLen (aC (eV 12) aN)) (eC (.int 1))) aN)))) aN))))))
        sNop)
      (sSeq (sFor (iRg1 (aC (e2 subD (eF fLen (aC (eV 12) aN)) (eC (.int 1))) aN)) (gN 15)
        (sApp 14 (e2 catD (e2 catD (eSl (eV 12) oN (oS (eV 15))) (eLst (aC (e2 ixD (eV 12) (e2 addD (eV 15) (eC (.int 1)))) (aC (e2 ixD (eV 12) (eV 15)) aN)))) (eSl (eV 12) (oS (e2 addD (eV 15) (eC (.int 2)))) oN))))
      (sSeq (sIf (tB (e2 gtD (eF fLen (aC (eV 12) aN)) (eC (.int 1))))
        (sSet 14 (e2 catD (eV 14) (eLst (aC (e1 revD (eV 12)) (aC (e2 catD (e2 catD (eSl (eV 12) oN (oS (eV 13))) (eSl (eV 12) oN (oS (eC (.int 1))))) (eSl (eV 12) (oS (eV 13)) oN)) aN)))))
        sNop)
      (sFor (iSeq (eV 14)) (gN 16)
        (sSeq (sSet 18 (eLst (aC (e2 ixD (eV 6) (eC (.int 0))) (aC (e2 ixD (eV 6) (eC (.int 1))) (aC (e2 ixD (eV 6) (eC (.int 2))) aN)))))
        (sSeq (sPut 18 (eV 11) (eF fTuple (aC (eV 16) aN)))
        (sIf (tNo (tTr (eF f_law_refused (aC (eV 1) (aC (eTup (aC (e2 ixD (eV 18) (eC (.int 0))) (aC (e2 ixD (eV 18) (eC (.int 1))) (aC (e2 ixD (eV 18) (eC (.int 2))) aN)))) aN)))))
          (sRet (eC (.bool false)))
          sNop))))))))))))))))))
  (sSeq (sSet 4 (eTup (aC (eTup aN) (aC (eTup aN) (aC (eTup aN) aN)))))
  (sSeq (sSet 5 (eTup (aC (eF fTuple (aC (eLc (iRg1 (aC (e2 ixD (eV 2) (eC (.int 0))) aN)) (gN 15) tYe (eV 15) [15]) aN)) (aC (eF fTuple (aC (eLc (iRg1 (aC (e2 ixD (eV 2) (eC (.int 1))) aN)) (gN 15) tYe (eV 15) [15]) aN)) (aC (eF fTuple (aC (eLc (iRg1 (aC (e2 ixD (eV 2) (eC (.int 2))) aN)) (gN 15) tYe (eV 15) [15]) aN)) aN)))))
  (sRet (eAn (e2 isNoneD (eF f_check_state (aC (eV 1) (aC (eV 4) aN))) (eC .none)) (eAn (e2 isNoneD (eF f_check_state (aC (eV 1) (aC (eV 5) aN))) (eC .none)) (eAn (e2 isBoolD (eF f_is_full (aC (eV 1) (aC (eV 5) aN))) (eC (.bool true))) (e2 eqD (eF f_is_full (aC (eV 1) (aC (eV 4) aN))) (e2 eqD (e2 ixD (eV 2) (eC (.int 2))) (eC (.int 0)))))))))))))
noncomputable def f_law : List D → R D := fnF 19 b_law

end Lw

set_option Elab.async false
set_option linter.all false
set_option maxRecDepth 100000
set_option maxHeartbeats 4000000
/-! printed by gen_law.py for k02: that the defs hand them back -/
namespace Lw
open PySem L2 PyProof.Rows Vx
def topS (i : Nat) : Stmt := PySem.Challenge.pw_relume_k02_states_checked.main.body.getD i (.Pass ⟨0, 0, 0, 0⟩)
structure Bs (K : PySem.W.Frag) (mg : Str → Option Value) (W : Vp) : Prop where
  nob : ∀ x ∈ (["ValueError", "abs", "bool", "enumerate", "int", "isinstance", "len", "list", "max", "min", "range", "repr", "reversed", "tuple"] : List Str), mg x = none
  x_BadState : ExF K mg "BadState" (W.ea 2)
  x_OutOfRange : ExF K mg "OutOfRange" (W.ea 3)
  x_BadNet : ExF K mg "BadNet" (W.ea 1)
  x_LightError : ExF K mg "LightError" (W.ea 0)
  c_BadState : ExcC K (W.ea 2)
  e_BadState_BadState : PySem.W.exmOne K (.ref (W.ea 2)) (.ref (W.ea 2)) = some true
  i_BadState_BadNet : PySem.W.kitOne K (.ref (W.ea 2)) (.ref (W.ea 1)) = some (excSub 2 1)
  i_BadState_LightError : PySem.W.kitOne K (.ref (W.ea 2)) (.ref (W.ea 0)) = some (excSub 2 0)
  i_BadState_OutOfRange : PySem.W.kitOne K (.ref (W.ea 2)) (.ref (W.ea 3)) = some (excSub 2 3)
  i_BadState_ValueError : PySem.W.kitOne K (.ref (W.ea 2)) (.type "ValueError") = some (excSub 2 100)
theorem Bs.bi {K : PySem.W.Frag} {mg : Str → Option Value} {W : Vp} (B : Bs K mg W) (x : Str) (h : x ∈ (["ValueError", "abs", "bool", "enumerate", "int", "isinstance", "len", "list", "max", "min", "range", "repr", "reversed", "tuple"] : List Str)) : mg x = none := B.nob x h
section
variable {P : Program} {w : World} {K : PySem.W.Frag} {mg : Str → Option Value} {base : Heap} {W : Vp}
abbrev s_check_indexes : Stmt := topS 6
theorem sc_check_indexes : FnScope ["indexes", "count", "at", "index"] ["indexes", "count"] (defScope s_check_indexes) := ⟨rfl, rfl, rfl, by decide +kernel, rfl, by decide +kernel, by decide +kernel⟩
theorem ok_check_indexes (B : Bs K mg W) (hW : W.rc.xa = none) (d : Dn K mg "check_indexes" "check_indexes" s_check_indexes ["indexes", "count"])  : Cal P w K mg base W "check_indexes" 1 2 f_check_indexes :=
  cal d sc_check_indexes fun f cdv A outer s H E hr => by
    have nd := sc_check_indexes.nd
    exact (show VSs (cxOf (L2.CX P w) P w K mg base ["indexes", "count", "at", "index"] "check_indexes" (defScope s_check_indexes) f cdv A outer s H E) W (fun _ => E) [] [] [] (defBody s_check_indexes) b_check_indexes from
  (vss_one (vs_for (x := []) (passes_of rfl) rfl (vi_enumT (pi_enumT (by rfl) (B.bi "enumerate" (by decide)) (va_cons (ve_v (pv 0)) va_nil))) (vg_tup rfl (vgs_cons (vg_name (pg_name (i := 2) nd rfl (by first | exact Or.inl rfl | exact Or.inr rfl))) (vgs_cons (vg_name (pg_name (i := 3) nd rfl (by first | exact Or.inl rfl | exact Or.inr rfl))) vgs_nil)))
    (vss_one (vs_if (o' := []) (vt_all (vt_w (vw_or (vt_all (vt_not (vt_all (vt_ch ve_int (vct_link op_le o2_le (ve_v (pv 3)) (vct_last op_lt o2_lt (ve_v (pv 1)))))))) (vw_or1 (vt_all (vt_w (vw_and (vt_all (vt_cmp op_gt o2_gt (ve_v (pv 2)) ve_int (nomark _))) (vw_and1 (vt_all (vt_cmp op_ge o2_ge (ve_ix ix_seq o2_ix (ve_v (pv 0)) (ve_op op_sub o2_sub (ve_v (pv 2)) ve_int) (fun _ _ => rfl)) (ve_v (pv 3)) (nomark _)))))))))))
      (vss_one (vs_raise (n := 2) (ps_raise rfl (takes_of rfl rfl rfl rfl) (pmk_own PySem.F.excBase_ValueError B.x_BadState.x B.x_BadState.g B.x_BadState.k (raises_own B.x_BadState.b B.x_BadState.t) (by exact rfl)))))
      vss_nil)))))

abbrev s_check_state : Stmt := topS 7
theorem sc_check_state : FnScope ["net", "state", "closed", "running", "fed"] ["net", "state"] (defScope s_check_state) := ⟨rfl, rfl, rfl, by decide +kernel, rfl, by decide +kernel, by decide +kernel⟩
theorem ok_check_state (B : Bs K mg W) (hW : W.rc.xa = none) (d : Dn K mg "check_state" "check_state" s_check_state ["net", "state"]) (c_check_indexes : Cal P w K mg base W "check_indexes" 1 2 f_check_indexes) : Cal P w K mg base W "check_state" 2 2 f_check_state :=
  cal d sc_check_state fun f cdv A outer s H E hr => by
    have nd := sc_check_state.nd
    exact (show VSs (cxOf (L2.CX P w) P w K mg base ["net", "state", "closed", "running", "fed"] "check_state" (defScope s_check_state) f cdv A outer s H E) W (fun _ => E) [] [] [] (defBody s_check_state) b_check_state from
  (vss_cons (o1 := []) (vs_asg (x := []) (ps_asg (ve_v (pv 1)) (vg_tup rfl (vgs_cons (vg_name (pg_name (i := 2) nd rfl (by first | exact Or.inl rfl | exact Or.inr rfl))) (vgs_cons (vg_name (pg_name (i := 3) nd rfl (by first | exact Or.inl rfl | exact Or.inr rfl))) (vgs_cons (vg_name (pg_name (i := 4) nd rfl (by first | exact Or.inl rfl | exact Or.inr rfl))) vgs_nil))))))
  (vss_cons (o1 := []) (vs_do (ps_expr (ve_cal c_check_indexes (aC_len (aC_len (fun _ _ h => aN_len h))) hr (pass_fn (takes_of rfl rfl rfl rfl)) (va_cons (ve_v (pv 2)) (va_cons (ve_wkB ca_len (pe_callB call_len_seq (by rfl) (B.bi "len" (by decide)) (by decide +kernel) (va_cons (ve_ix ix_seq o2_ix (ve_v (pv 0)) ve_int (fun _ _ => rfl)) va_nil))) va_nil)))))
  (vss_cons (o1 := []) (vs_do (ps_expr (ve_cal c_check_indexes (aC_len (aC_len (fun _ _ h => aN_len h))) hr (pass_fn (takes_of rfl rfl rfl rfl)) (va_cons (ve_v (pv 3)) (va_cons (ve_wkB ca_len (pe_callB call_len_seq (by rfl) (B.bi "len" (by decide)) (by decide +kernel) (va_cons (ve_ix ix_seq o2_ix (ve_v (pv 0)) ve_int (fun _ _ => rfl)) va_nil))) va_nil)))))
  (vss_one (vs_do (ps_expr (ve_cal c_check_indexes (aC_len (aC_len (fun _ _ h => aN_len h))) hr (pass_fn (takes_of rfl rfl rfl rfl)) (va_cons (ve_v (pv 4)) (va_cons (ve_wkB ca_len (pe_callB call_len_seq (by rfl) (B.bi "len" (by decide)) (by decide +kernel) (va_cons (ve_ix ix_seq o2_ix (ve_v (pv 0)) ve_int (fun _ _ => rfl)) va_nil))) va_nil))))))))))

abbrev s_is_full : Stmt := topS 8
theorem sc_is_full : FnScope ["net", "state"] ["net", "state"] (defScope s_is_full) := ⟨rfl, rfl, rfl, by decide +kernel, rfl, by decide +kernel, by decide +kernel⟩
theorem ok_is_full (B : Bs K mg W) (hW : W.rc.xa = none) (d : Dn K mg "is_full" "is_full" s_is_full ["net", "state"])  : Cal P w K mg base W "is_full" 1 2 f_is_full :=
  cal d sc_is_full fun f cdv A outer s H E hr => by
    have nd := sc_is_full.nd
    exact (show VSs (cxOf (L2.CX P w) P w K mg base ["net", "state"] "is_full" (defScope s_is_full) f cdv A outer s H E) W (fun _ => E) [] [] [] (defBody s_is_full) b_is_full from
  (vss_one (vs_ret (ps_ret (ve_cmp (op_eqA hr.room.units) o2_eq (ve_wkB ca_len (pe_callB call_len_seq (by rfl) (B.bi "len" (by decide)) (by decide +kernel) (va_cons (ve_ix ix_seq o2_ix (ve_v (pv 1)) ve_int (fun _ _ => rfl)) va_nil))) (ve_wkB ca_len (pe_callB call_len_seq (by rfl) (B.bi "len" (by decide)) (by decide +kernel) (va_cons (ve_ix ix_seq o2_ix (ve_v (pv 0)) ve_int (fun _ _ => rfl)) va_nil))) (nomark _))))))

abbrev s_law_cell : Stmt := topS 10
theorem sc_law_cell : FnScope ["_law_script", "_law_k"] ["_law_script", "_law_k"] (defScope s_law_cell) := ⟨rfl, rfl, rfl, by decide +kernel, rfl, by decide +kernel, by decide +kernel⟩
theorem ok_law_cell (B : Bs K mg W) (hW : W.rc.xa = none) (d : Dn K mg "_law_cell" "_law_cell" s_law_cell ["_law_script", "_law_k"])  : Cal P w K mg base W "_law_cell" 1 2 f_law_cell :=
  cal d sc_law_cell fun f cdv A outer s H E hr => by
    have nd := sc_law_cell.nd
    exact (show VSs (cxOf (L2.CX P w) P w K mg base ["_law_script", "_law_k"] "_law_cell" (defScope s_law_cell) f cdv A outer s H E) W (fun _ => E) [] [] [] (defBody s_law_cell) b_law_cell from
  (vss_cons (o1 := []) (vs_if (o' := []) (vt_all (vt_cmp op_lt o2_lt (ve_v (pv 1)) (ve_wkB ca_len (pe_callB call_len_seq (by rfl) (B.bi "len" (by decide)) (by decide +kernel) (va_cons (ve_v (pv 0)) va_nil))) (nomark _)))
    (vss_one (vs_ret (ps_ret (ve_wkB ca_int (pe_callTy call_int1 (by rfl) (B.bi "int" (by decide)) (by decide +kernel) (va_cons (ve_ix ix_seq o2_ix (ve_v (pv 0)) (ve_v (pv 1)) (fun _ _ => rfl)) va_nil))))))
    vss_nil)
  (vss_one (vs_ret (ps_ret ve_int)))))

abbrev s_law_draws : Stmt := topS 11
theorem sc_law_draws : FnScope ["_law_cell_here", "_law_limits", "_law_found", "_law_rest", "_law_state_here", "_law_free", "_law_limit"] ["_law_cell_here", "_law_limits"] (defScope s_law_draws) := ⟨rfl, rfl, rfl, by decide +kernel, rfl, by decide +kernel, by decide +kernel⟩
theorem ok_law_draws (B : Bs K mg W) (hW : W.rc.xa = none) (d : Dn K mg "_law_draws" "_law_draws" s_law_draws ["_law_cell_here", "_law_limits"])  : Cal P w K mg base W "_law_draws" 1 2 f_law_draws :=
  cal d sc_law_draws fun f cdv A outer s H E hr => by
    have nd := sc_law_draws.nd
    exact (show VSs (cxOf (L2.CX P w) P w K mg base ["_law_cell_here", "_law_limits", "_law_found", "_law_rest", "_law_state_here", "_law_free", "_law_limit"] "_law_draws" (defScope s_law_draws) f cdv A outer s H E) W (fun _ => E) [] [] [] (defBody s_law_draws) b_law_draws from
  (vss_cons (o1 := [2]) (vs_less (o1 := 2 :: List.filter (· ≠ 2) []) (vs_setN (x := []) (ps_set (i := 2) nd rfl (by first | exact Or.inl rfl | exact Or.inr rfl) (vn_lst va_nil))))
  (vss_cons (o1 := [2]) (vs_less (o1 := List.filter (· ≠ 3) [2]) (vs_set (x := [2]) (ps_set (i := 3) nd rfl (by first | exact Or.inl rfl | exact Or.inr rfl) (ve_wkB ca_abs (pe_callB call_abs (by rfl) (B.bi "abs" (by decide)) (by decide +kernel) (va_cons (ve_wkB ca_int (pe_callTy call_int1 (by rfl) (B.bi "int" (by decide)) (by decide +kernel) (va_cons (ve_v (pv 0)) va_nil))) va_nil))))))
  (vss_cons (o1 := [2]) (vs_less (o1 := List.filter (· ≠ 4) [2]) (vs_set (x := [2]) (ps_set (i := 4) nd rfl (by first | exact Or.inl rfl | exact Or.inr rfl) (ve_op op_modN o2_mod (ve_wkB ca_int (pe_callTy call_int1 (by rfl) (B.bi "int" (by decide)) (by decide +kernel) (va_cons (ve_v (pv 3)) va_nil))) ve_int))))
  (vss_cons (o1 := [2]) (vs_less (o1 := List.filter (· ≠ 5) [2]) (vs_set (x := [2]) (ps_set (i := 5) nd rfl (by first | exact Or.inl rfl | exact Or.inr rfl) (ve_or (ve_cmp op_lt o2_lt (ve_v (pv 0)) ve_int (nomark _)) (ve_one (ve_cmp op_ge o2_ge (ve_v (pv 0)) (ve_op op_pow o2_pow ve_int ve_int) (nomark _)))))))
  (vss_cons (o1 := [2]) (vs_for (x := [2]) (passes_of rfl) rfl (vi_list (ve_v (pv 1))) (vg_name (pg_name (i := 6) nd rfl (by first | exact Or.inl rfl | exact Or.inr rfl)))
    (vss_one (vs_if (o' := [2]) (vt_all (vt_w (vw_and (vt_all (vt_truth (ve_v (pv 5)))) (vw_and1 (vt_all (vt_cmp op_gt o2_gt (ve_v (pv 3)) ve_int (nomark _)))))))
      (vss_cons (o1 := [2]) (vs_app (x := [2]) (ps_expr (pe_bm PySem.F.plainAttrs_list PySem.F.slot_list_append PySem.F.type_list_append mt_append (pv 2) (pa_cons (ve_op op_modN o2_mod (ve_wkB ca_int (pe_callTy call_int1 (by rfl) (B.bi "int" (by decide)) (by decide +kernel) (va_cons (ve_v (pv 3)) va_nil))) (ve_v (pv 6))) pa_nil))))
      (vss_one (vs_less (o1 := List.filter (· ≠ 3) [2]) (vs_set (x := [2]) (ps_set (i := 3) nd rfl (by first | exact Or.inl rfl | exact Or.inr rfl) (ve_op op_fdivN o2_div (ve_v (pv 3)) (ve_v (pv 6))))))))
      (vss_cons (o1 := [2]) (vs_less (o1 := List.filter (· ≠ 4) [2]) (vs_set (x := [2]) (ps_set (i := 4) nd rfl (by first | exact Or.inl rfl | exact Or.inr rfl) (ve_op op_modN o2_mod (ve_wkB ca_int (pe_callTy call_int1 (by rfl) (B.bi "int" (by decide)) (by decide +kernel) (va_cons (ve_op op_add o2_add (ve_op op_mul o2_mul (ve_v (pv 4)) ve_int) ve_int) va_nil))) ve_int))))
      (vss_cons (o1 := [2]) (vs_less (o1 := List.filter (· ≠ 4) [2]) (vs_set (x := [2]) (ps_set (i := 4) nd rfl (by first | exact Or.inl rfl | exact Or.inr rfl) (ve_op op_modN o2_mod (ve_wkB ca_int (pe_callTy call_int1 (by rfl) (B.bi "int" (by decide)) (by decide +kernel) (va_cons (ve_op op_add o2_add (ve_op op_mul o2_mul (ve_v (pv 4)) ve_int) ve_int) va_nil))) ve_int))))
      (vss_one (vs_app (x := [2]) (ps_expr (pe_bm PySem.F.plainAttrs_list PySem.F.slot_list_append PySem.F.type_list_append mt_append (pv 2) (pa_cons (ve_op op_modN o2_mod (ve_wkB ca_int (pe_callTy call_int1 (by rfl) (B.bi "int" (by decide)) (by decide +kernel) (va_cons (ve_op op_fdivN o2_div (ve_v (pv 4)) ve_int) va_nil))) (ve_v (pv 6))) pa_nil))))))))))
  (vss_one (vs_ret (ps_ret (ve_v (pv 2)))))))))))

abbrev s_law_net : Stmt := topS 12
theorem sc_law_net : FnScope ["_law_cell_here", "_law_more", "_law_most", "_law_draws_here", "_law_nodes", "_law_wide", "_law_lines_here", "_law_parts", "_law_k", "_law_stations_here", "_law_loads", "_law_part", "_law_pair", "_law_low", "_law_high"] ["_law_cell_here", "_law_more", "_law_most"] (defScope s_law_net) := ⟨rfl, rfl, rfl, by decide +kernel, rfl, by decide +kernel, by decide +kernel⟩
theorem ok_law_net (B : Bs K mg W) (hW : W.rc.xa = none) (d : Dn K mg "_law_net" "_law_net" s_law_net ["_law_cell_here", "_law_more", "_law_most"]) (c_law_draws : Cal P w K mg base W "_law_draws" 1 2 f_law_draws) : Cal P w K mg base W "_law_net" 2 3 f_law_net :=
  cal d sc_law_net fun f cdv A outer s H E hr => by
    have nd := sc_law_net.nd
    exact (show VSs (cxOf (L2.CX P w) P w K mg base ["_law_cell_here", "_law_more", "_law_most", "_law_draws_here", "_law_nodes", "_law_wide", "_law_lines_here", "_law_parts", "_law_k", "_law_stations_here", "_law_loads", "_law_part", "_law_pair", "_law_low", "_law_high"] "_law_net" (defScope s_law_net) f cdv A outer s H E) W (fun _ => E) [] [] [] (defBody s_law_net) b_law_net from
  (vss_cons (o1 := []) (vs_less (o1 := List.filter (· ≠ 3) []) (vs_set (x := []) (ps_set (i := 3) nd rfl (by first | exact Or.inl rfl | exact Or.inr rfl) (ve_cal c_law_draws (aC_len (aC_len (fun _ _ h => aN_len h))) hr (pass_fn (takes_of rfl rfl rfl rfl)) (va_cons (ve_v (pv 0)) (va_cons (ve_n (vn_lst (va_cons (ve_v (pv 2)) (va_cons ve_int (va_cons ve_int (va_cons ve_int (va_cons ve_int va_nil))))))) va_nil))))))
  (vss_cons (o1 := []) (vs_less (o1 := List.filter (· ≠ 4) []) (vs_set (x := []) (ps_set (i := 4) nd rfl (by first | exact Or.inl rfl | exact Or.inr rfl) (ve_op op_add o2_add ve_int (ve_ix ix_seq o2_ix (ve_v (pv 3)) ve_int (fun _ _ => rfl))))))
  (vss_cons (o1 := []) (vs_less (o1 := List.filter (· ≠ 5) []) (vs_set (x := []) (ps_set (i := 5) nd rfl (by first | exact Or.inl rfl | exact Or.inr rfl) (ve_cmp (op_eqA hr.room.units) o2_eq (ve_ix ix_seq o2_ix (ve_v (pv 3)) ve_int (fun _ _ => rfl)) ve_int (nomark _)))))
  (vss_cons (o1 := [6]) (vs_less (o1 := 6 :: List.filter (· ≠ 6) []) (vs_setN (x := []) (ps_set (i := 6) nd rfl (by first | exact Or.inl rfl | exact Or.inr rfl) (vn_lst va_nil))))
  (vss_cons (o1 := [6]) (vs_less (o1 := List.filter (· ≠ 7) [6]) (vs_set (x := [6]) (ps_set (i := 7) nd rfl (by first | exact Or.inl rfl | exact Or.inr rfl) (ve_cal c_law_draws (aC_len (aC_len (fun _ _ h => aN_len h))) hr (pass_fn (takes_of rfl rfl rfl rfl)) (va_cons (ve_v (pv 1)) (va_cons (ve_n (vn_op op_repR on_rep (ve_n (vn_lst (va_cons (ve_op op_pow o2_pow ve_int ve_int) va_nil))) ve_int)) va_nil))))))
  (vss_cons (o1 := [6]) (vs_for (x := [6]) (passes_of rfl) rfl (vi_rng1 (by rfl) (B.bi "range" (by decide)) (va_cons (ve_ix ix_seq o2_ix (ve_v (pv 3)) ve_int (fun _ _ => rfl)) va_nil)) (vg_name (pg_name (i := 8) nd rfl (by first | exact Or.inl rfl | exact Or.inr rfl)))
    (vss_cons (o1 := [6]) (vs_less (o1 := List.filter (· ≠ 11) [6]) (vs_set (x := [6]) (ps_set (i := 11) nd rfl (by first | exact Or.inl rfl | exact Or.inr rfl) (ve_cal c_law_draws (aC_len (aC_len (fun _ _ h => aN_len h))) hr (pass_fn (takes_of rfl rfl rfl rfl)) (va_cons (ve_ix ix_seq o2_ix (ve_v (pv 7)) (ve_v (pv 8)) (fun _ _ => rfl)) (va_cons (ve_n (vn_lst (va_cons (ve_v (pv 4)) (va_cons (ve_v (pv 4)) (va_cons ve_int (va_cons ve_int (va_cons ve_int (va_cons ve_int va_nil)))))))) va_nil))))))
    (vss_one (vs_if (o' := [6]) (vt_all (vt_cmp (op_neA hr.room.units) o2_ne (ve_ix ix_seq o2_ix (ve_v (pv 11)) ve_int (fun _ _ => rfl)) (ve_ix ix_seq o2_ix (ve_v (pv 11)) ve_int (fun _ _ => rfl)) (nomark _)))
      (vss_cons (o1 := [6]) (vs_less (o1 := List.filter (· ≠ 12) [6]) (vs_set (x := [6]) (ps_set (i := 12) nd rfl (by first | exact Or.inl rfl | exact Or.inr rfl) (ve_tup (va_cons (ve_wkB ca_min2 (pe_callB (call_min2 rfl) (by rfl) (B.bi "min" (by decide)) (by decide +kernel) (va_cons (ve_ix ix_seq o2_ix (ve_v (pv 11)) ve_int (fun _ _ => rfl)) (va_cons (ve_ix ix_seq o2_ix (ve_v (pv 11)) ve_int (fun _ _ => rfl)) va_nil)))) (va_cons (ve_wkB ca_max2 (pe_callB (call_max2 rfl) (by rfl) (B.bi "max" (by decide)) (by decide +kernel) (va_cons (ve_ix ix_seq o2_ix (ve_v (pv 11)) ve_int (fun _ _ => rfl)) (va_cons (ve_ix ix_seq o2_ix (ve_v (pv 11)) ve_int (fun _ _ => rfl)) va_nil)))) va_nil))))))
      (vss_one (vs_app (x := [6]) (ps_expr (pe_bm PySem.F.plainAttrs_list PySem.F.slot_list_append PySem.F.type_list_append mt_append (pv 6) (pa_cons (ve_op op_catT o2_catT (ve_v (pv 12)) (ve_ix ix_seq o2_ix (ve_n (vn_lst (va_cons (ve_tup (va_cons (ve_op op_add o2_add ve_int (ve_ix ix_seq o2_ix (ve_v (pv 11)) ve_int (fun _ _ => rfl))) (va_cons (ve_ix ix_seq o2_ix (ve_v (pv 11)) ve_int (fun _ _ => rfl)) va_nil))) (va_cons (ve_tup (va_cons (ve_op op_add o2_add ve_int (ve_ix ix_seq o2_ix (ve_v (pv 11)) ve_int (fun _ _ => rfl))) (va_cons (ve_ix ix_seq o2_ix (ve_v (pv 11)) ve_int (fun _ _ => rfl)) va_nil))) va_nil)))) (ve_wkB ca_int (pe_callTy call_int1 (by rfl) (B.bi "int" (by decide)) (by decide +kernel) (va_cons (ve_v (pv 5)) va_nil))) (fun _ _ => rfl))) pa_nil))))))
      vss_nil))))
  (vss_cons (o1 := [9, 6]) (vs_less (o1 := 9 :: List.filter (· ≠ 9) [6]) (vs_setN (x := [6]) (ps_set (i := 9) nd rfl (by first | exact Or.inl rfl | exact Or.inr rfl) (vn_lst va_nil))))
  (vss_cons (o1 := [9, 6]) (vs_for (x := [9, 6]) (passes_of rfl) rfl (vi_rng1 (by rfl) (B.bi "range" (by decide)) (va_cons (ve_ix ix_seq o2_ix (ve_v (pv 3)) ve_int (fun _ _ => rfl)) va_nil)) (vg_name (pg_name (i := 8) nd rfl (by first | exact Or.inl rfl | exact Or.inr rfl)))
    (vss_cons (o1 := [9, 6]) (vs_less (o1 := List.filter (· ≠ 11) [9, 6]) (vs_set (x := [9, 6]) (ps_set (i := 11) nd rfl (by first | exact Or.inl rfl | exact Or.inr rfl) (ve_cal c_law_draws (aC_len (aC_len (fun _ _ h => aN_len h))) hr (pass_fn (takes_of rfl rfl rfl rfl)) (va_cons (ve_ix ix_seq o2_ix (ve_v (pv 7)) (ve_op op_add o2_add ve_int (ve_v (pv 8))) (fun _ _ => rfl)) (va_cons (ve_n (vn_lst (va_cons (ve_v (pv 4)) (va_cons ve_int (va_cons ve_int (va_cons ve_int (va_cons ve_int (va_cons ve_int va_nil)))))))) va_nil))))))
    (vss_cons (o1 := [9, 6]) (vs_asg (x := [9, 6]) (ps_asg (ve_ix ix_seq o2_ix (ve_n (vn_lst (va_cons (ve_tup (va_cons (ve_ix ix_seq o2_ix (ve_v (pv 11)) ve_int (fun _ _ => rfl)) (va_cons (ve_op op_add o2_add (ve_ix ix_seq o2_ix (ve_v (pv 11)) ve_int (fun _ _ => rfl)) (ve_ix ix_seq o2_ix (ve_v (pv 11)) ve_int (fun _ _ => rfl))) va_nil))) (va_cons (ve_tup (va_cons (ve_wkB ca_min2 (pe_callB (call_min2 rfl) (by rfl) (B.bi "min" (by decide)) (by decide +kernel) (va_cons (ve_ix ix_seq o2_ix (ve_v (pv 11)) ve_int (fun _ _ => rfl)) (va_cons (ve_ix ix_seq o2_ix (ve_v (pv 11)) ve_int (fun _ _ => rfl)) va_nil)))) (va_cons (ve_wkB ca_max2 (pe_callB (call_max2 rfl) (by rfl) (B.bi "max" (by decide)) (by decide +kernel) (va_cons (ve_ix ix_seq o2_ix (ve_v (pv 11)) ve_int (fun _ _ => rfl)) (va_cons (ve_ix ix_seq o2_ix (ve_v (pv 11)) ve_int (fun _ _ => rfl)) va_nil)))) va_nil))) va_nil)))) (ve_wkB ca_int (pe_callTy call_int1 (by rfl) (B.bi "int" (by decide)) (by decide +kernel) (va_cons (ve_v (pv 5)) va_nil))) (fun _ _ => rfl)) (vg_tup rfl (vgs_cons (vg_name (pg_name (i := 13) nd rfl (by first | exact Or.inl rfl | exact Or.inr rfl))) (vgs_cons (vg_name (pg_name (i := 14) nd rfl (by first | exact Or.inl rfl | exact Or.inr rfl))) vgs_nil)))))
    (vss_one (vs_app (x := [9, 6]) (ps_expr (pe_bm PySem.F.plainAttrs_list PySem.F.slot_list_append PySem.F.type_list_append mt_append (pv 9) (pa_cons (ve_tup (va_cons (ve_ix ix_seq o2_ix (ve_v (pv 11)) ve_int (fun _ _ => rfl)) (va_cons (ve_v (pv 13)) (va_cons (ve_v (pv 14)) (va_cons (ve_cmp op_gt o2_gt (ve_ix ix_seq o2_ix (ve_v (pv 11)) ve_int (fun _ _ => rfl)) ve_int (nomark _)) va_nil))))) pa_nil))))))))
  (vss_cons (o1 := [10, 9, 6]) (vs_less (o1 := 10 :: List.filter (· ≠ 10) [9, 6]) (vs_setN (x := [9, 6]) (ps_set (i := 10) nd rfl (by first | exact Or.inl rfl | exact Or.inr rfl) (vn_lst va_nil))))
  (vss_cons (o1 := [10, 9, 6]) (vs_for (x := [10, 9, 6]) (passes_of rfl) rfl (vi_rng1 (by rfl) (B.bi "range" (by decide)) (va_cons (ve_ix ix_seq o2_ix (ve_v (pv 3)) ve_int (fun _ _ => rfl)) va_nil)) (vg_name (pg_name (i := 8) nd rfl (by first | exact Or.inl rfl | exact Or.inr rfl)))
    (vss_cons (o1 := [10, 9, 6]) (vs_less (o1 := List.filter (· ≠ 11) [10, 9, 6]) (vs_set (x := [10, 9, 6]) (ps_set (i := 11) nd rfl (by first | exact Or.inl rfl | exact Or.inr rfl) (ve_cal c_law_draws (aC_len (aC_len (fun _ _ h => aN_len h))) hr (pass_fn (takes_of rfl rfl rfl rfl)) (va_cons (ve_ix ix_seq o2_ix (ve_v (pv 7)) (ve_op op_add o2_add ve_int (ve_v (pv 8))) (fun _ _ => rfl)) (va_cons (ve_n (vn_lst (va_cons (ve_v (pv 4)) (va_cons ve_int (va_cons ve_int va_nil))))) va_nil))))))
    (vss_one (vs_app (x := [10, 9, 6]) (ps_expr (pe_bm PySem.F.plainAttrs_list PySem.F.slot_list_append PySem.F.type_list_append mt_append (pv 10) (pa_cons (ve_tup (va_cons (ve_ix ix_seq o2_ix (ve_v (pv 11)) ve_int (fun _ _ => rfl)) (va_cons (ve_ix ix_seq o2_ix (ve_n (vn_lst (va_cons (ve_op op_add o2_add ve_int (ve_ix ix_seq o2_ix (ve_v (pv 11)) ve_int (fun _ _ => rfl))) (va_cons (ve_op op_add o2_add ve_int (ve_ix ix_seq o2_ix (ve_v (pv 11)) ve_int (fun _ _ => rfl))) va_nil)))) (ve_wkB ca_int (pe_callTy call_int1 (by rfl) (B.bi "int" (by decide)) (by decide +kernel) (va_cons (ve_v (pv 5)) va_nil))) (fun _ _ => rfl)) va_nil))) pa_nil)))))))
  (vss_one (vs_ret (ps_ret (ve_tup (va_cons (ve_v (pv 4)) (va_cons (ve_v (pv 6)) (va_cons (ve_v (pv 9)) (va_cons (ve_v (pv 10)) va_nil)))))))))))))))))))

abbrev s_law_some : Stmt := topS 13
theorem sc_law_some : FnScope ["_law_cell_here", "_law_count", "_law_often", "_law_draws_here", "_law_k"] ["_law_cell_here", "_law_count", "_law_often"] (defScope s_law_some) := ⟨rfl, rfl, rfl, by decide +kernel, rfl, by decide +kernel, by decide +kernel⟩
theorem ok_law_some (B : Bs K mg W) (hW : W.rc.xa = none) (d : Dn K mg "_law_some" "_law_some" s_law_some ["_law_cell_here", "_law_count", "_law_often"]) (c_law_draws : Cal P w K mg base W "_law_draws" 1 2 f_law_draws) : Cal P w K mg base W "_law_some" 2 3 f_law_some :=
  cal d sc_law_some fun f cdv A outer s H E hr => by
    have nd := sc_law_some.nd
    exact (show VSs (cxOf (L2.CX P w) P w K mg base ["_law_cell_here", "_law_count", "_law_often", "_law_draws_here", "_law_k"] "_law_some" (defScope s_law_some) f cdv A outer s H E) W (fun _ => E) [] [] [] (defBody s_law_some) b_law_some from
  (vss_cons (o1 := []) (vs_less (o1 := List.filter (· ≠ 3) []) (vs_set (x := []) (ps_set (i := 3) nd rfl (by first | exact Or.inl rfl | exact Or.inr rfl) (ve_cal c_law_draws (aC_len (aC_len (fun _ _ h => aN_len h))) hr (pass_fn (takes_of rfl rfl rfl rfl)) (va_cons (ve_v (pv 0)) (va_cons (ve_n (vn_op op_repR on_rep (ve_n (vn_lst (va_cons ve_int va_nil))) (ve_v (pv 1)))) va_nil))))))
  (vss_one (vs_ret (ps_ret (ve_wkB ca_tuple (pe_callTy call_tuple_of (by rfl) (B.bi "tuple" (by decide)) (by decide +kernel) (va_cons (ve_n (vn_lc (own := [("_law_k", 4)]) rfl nd (vi_rng1 (by rfl) (B.bi "range" (by decide)) (va_cons (ve_v (pv 1)) va_nil)) (blkOk_by (N := ["_law_cell_here", "_law_count", "_law_often", "_law_draws_here", "_law_k"]) (sc := defScope s_law_some) (by decide +kernel)) (fun _ _ _ _ _ => (vg_name (pg_name (i := 4) nd rfl (by first | exact Or.inl rfl | exact Or.inr rfl)))) (fun _ _ _ _ _ => (vts_one (vt_all (vt_cmp op_lt o2_lt (ve_ix ix_seq o2_ix (ve_v (pv 3)) (ve_v (pv 4)) (fun _ _ => rfl)) (ve_v (pv 2)) (nomark _))))) (fun _ _ _ _ _ => (ve_v (pv 4))))) va_nil))))))))

abbrev s_law_state : Stmt := topS 14
theorem sc_law_state : FnScope ["_law_cell_here", "_law_net_here", "_law_draws_here", "_law_often"] ["_law_cell_here", "_law_net_here"] (defScope s_law_state) := ⟨rfl, rfl, rfl, by decide +kernel, rfl, by decide +kernel, by decide +kernel⟩
theorem ok_law_state (B : Bs K mg W) (hW : W.rc.xa = none) (d : Dn K mg "_law_state" "_law_state" s_law_state ["_law_cell_here", "_law_net_here"]) (c_law_draws : Cal P w K mg base W "_law_draws" 1 2 f_law_draws) (c_law_some : Cal P w K mg base W "_law_some" 2 3 f_law_some) : Cal P w K mg base W "_law_state" 3 2 f_law_state :=
  cal d sc_law_state fun f cdv A outer s H E hr => by
    have nd := sc_law_state.nd
    exact (show VSs (cxOf (L2.CX P w) P w K mg base ["_law_cell_here", "_law_net_here", "_law_draws_here", "_law_often"] "_law_state" (defScope s_law_state) f cdv A outer s H E) W (fun _ => E) [] [] [] (defBody s_law_state) b_law_state from
  (vss_cons (o1 := []) (vs_less (o1 := List.filter (· ≠ 2) []) (vs_set (x := []) (ps_set (i := 2) nd rfl (by first | exact Or.inl rfl | exact Or.inr rfl) (ve_cal c_law_draws (aC_len (aC_len (fun _ _ h => aN_len h))) hr (pass_fn (takes_of rfl rfl rfl rfl)) (va_cons (ve_v (pv 0)) (va_cons (ve_n (vn_lst (va_cons (ve_op op_pow o2_pow ve_int ve_int) (va_cons (ve_op op_pow o2_pow ve_int ve_int) (va_cons (ve_op op_pow o2_pow ve_int ve_int) (va_cons ve_int va_nil)))))) va_nil))))))
  (vss_cons (o1 := []) (vs_less (o1 := List.filter (· ≠ 3) []) (vs_set (x := []) (ps_set (i := 3) nd rfl (by first | exact Or.inl rfl | exact Or.inr rfl) (ve_ix ix_seq o2_ix (ve_n (vn_lst (va_cons ve_int (va_cons ve_int (va_cons ve_int (va_cons ve_int va_nil)))))) (ve_ix ix_seq o2_ix (ve_v (pv 2)) ve_int (fun _ _ => rfl)) (fun _ _ => rfl)))))
  (vss_one (vs_ret (ps_ret (ve_tup (va_cons (ve_cal c_law_some (aC_len (aC_len (aC_len (fun _ _ h => aN_len h)))) hr (pass_fn (takes_of rfl rfl rfl rfl)) (va_cons (ve_ix ix_seq o2_ix (ve_v (pv 2)) ve_int (fun _ _ => rfl)) (va_cons (ve_wkB ca_len (pe_callB call_len_seq (by rfl) (B.bi "len" (by decide)) (by decide +kernel) (va_cons (ve_ix ix_seq o2_ix (ve_v (pv 1)) ve_int (fun _ _ => rfl)) va_nil))) (va_cons (ve_v (pv 3)) va_nil)))) (va_cons (ve_cal c_law_some (aC_len (aC_len (aC_len (fun _ _ h => aN_len h)))) hr (pass_fn (takes_of rfl rfl rfl rfl)) (va_cons (ve_ix ix_seq o2_ix (ve_v (pv 2)) ve_int (fun _ _ => rfl)) (va_cons (ve_wkB ca_len (pe_callB call_len_seq (by rfl) (B.bi "len" (by decide)) (by decide +kernel) (va_cons (ve_ix ix_seq o2_ix (ve_v (pv 1)) ve_int (fun _ _ => rfl)) va_nil))) (va_cons (ve_v (pv 3)) va_nil)))) (va_cons (ve_cal c_law_some (aC_len (aC_len (aC_len (fun _ _ h => aN_len h)))) hr (pass_fn (takes_of rfl rfl rfl rfl)) (va_cons (ve_ix ix_seq o2_ix (ve_v (pv 2)) ve_int (fun _ _ => rfl)) (va_cons (ve_wkB ca_len (pe_callB call_len_seq (by rfl) (B.bi "len" (by decide)) (by decide +kernel) (va_cons (ve_ix ix_seq o2_ix (ve_v (pv 1)) ve_int (fun _ _ => rfl)) va_nil))) (va_cons ve_int va_nil)))) va_nil))))))))))

abbrev s_law_refused : Stmt := topS 20
theorem sc_law_refused : FnScope ["_law_net_here", "_law_state_here", "_law_before", "e", "_law_good"] ["_law_net_here", "_law_state_here"] (defScope s_law_refused) := ⟨rfl, rfl, rfl, by decide +kernel, rfl, by decide +kernel, by decide +kernel⟩
theorem ok_law_refused (B : Bs K mg W) (hW : W.rc.xa = none) (d : Dn K mg "_law_refused" "_law_refused" s_law_refused ["_law_net_here", "_law_state_here"]) (c_check_state : Cal P w K mg base W "check_state" 2 2 f_check_state) : Cal P w K mg base W "_law_refused" 3 2 f_law_refused :=
  cal d sc_law_refused fun f cdv A outer s H E hr => by
    have nd := sc_law_refused.nd
    exact (show VSs (cxOf (L2.CX P w) P w K mg base ["_law_net_here", "_law_state_here", "_law_before", "e", "_law_good"] "_law_refused" (defScope s_law_refused) f cdv A outer s H E) W (fun _ => E) [] [] [] (defBody s_law_refused) b_law_refused from
  (vss_cons (o1 := []) (vs_less (o1 := List.filter (· ≠ 2) []) (vs_set (x := []) (ps_set (i := 2) nd rfl (by first | exact Or.inl rfl | exact Or.inr rfl) (ve_wkB ca_repr (pe_callB (cr_repr hr.gds hr.rep) (by rfl) (B.bi "repr" (by decide)) (by decide +kernel) (va_cons (ve_n (vn_lst (va_cons (ve_v (pv 0)) (va_cons (ve_v (pv 1)) va_nil)))) va_nil))))))
  (vss_cons (o1 := []) (vs_tryAs (i := 3) (cs := [2]) (o' := []) (fun Wx pn xe tk => (ve_cal c_check_state (aC_len (aC_len (fun _ _ h => aN_len h))) hr (fun σ => passAt tk σ) (va_cons (ve_v (pv 0)) (va_cons (ve_v (pv 1)) va_nil))))
    (fun a oe pn n hn hz hf => by
      obtain rfl : n = 2 := by simpa using hn
      exact (vss_cons (o1 := []) (vs_less (o1 := List.filter (· ≠ 4) []) (vs_set (x := []) (ps_set (i := 4) nd rfl (by first | exact Or.inl rfl | exact Or.inr rfl) (ve_and (ve_isE (m := 0) (pe_callB (call_isE B.c_BadState hz hf) (by rfl) (B.bi "isinstance" (by decide)) (by decide +kernel) (pa_cons (pv 3) (pa_cons (pe_glob (v := .ref (W.ea 0)) (by rfl) B.x_LightError.g rfl) pa_nil))) (fun _ z => z) B.i_BadState_LightError) (ve_and (ve_isE (m := 100) (pe_callB (call_isE B.c_BadState hz hf) (by rfl) (B.bi "isinstance" (by decide)) (by decide +kernel) (pa_cons (pv 3) (pa_cons (pe_bltn (v := .ty "ValueError") (by rfl) (B.bi "ValueError" (by decide)) (by decide +kernel) rfl) pa_nil))) (fun _ z => z) B.i_BadState_ValueError) (ve_one (ve_not (ve_isET (cvs := [.ref (W.ea 1), .ref (W.ea 3)]) (us := [Value.ref (W.ea 1), Value.ref (W.ea 3)]) (ms := [1, 3]) (pe_callB (call_isET B.c_BadState hz hf) (by rfl) (B.bi "isinstance" (by decide)) (by decide +kernel) (pa_cons (pv 3) (pa_cons (pe_clsT (pe_tup (pa_cons (pe_glob (v := .ref (W.ea 1)) (by rfl) B.x_BadNet.g rfl) (pa_cons (pe_glob (v := .ref (W.ea 3)) (by rfl) B.x_OutOfRange.g rfl) pa_nil))) (fun _ _ _ z => z)) pa_nil))) (.cons (.own _) (.cons (.own _) .nil)) (kitAny_cons B.i_BadState_BadNet (fun _ => (kitAny_cons B.i_BadState_OutOfRange (fun _ => kitAny_nil) (by decide))) (by decide))))))))))
    (vss_one (vs_ret (ps_ret (ve_and (ve_v (pv 4)) (ve_one (ve_cmp (op_eqA hr.room.units) o2_eq (ve_wkB ca_repr (pe_callB (cr_repr hr.gds hr.rep) (by rfl) (B.bi "repr" (by decide)) (by decide +kernel) (va_cons (ve_n (vn_lst (va_cons (ve_v (pv 0)) (va_cons (ve_v (pv 1)) va_nil)))) va_nil))) (ve_v (pv 2)) (nomark _))))))))) B.x_BadState.g hW (fun n hn => by
      obtain rfl : n = 2 := by simpa using hn
      exact B.e_BadState_BadState) nd)
  (vss_one (vs_ret (ps_ret ve_bl))))))

abbrev s_law : Stmt := topS 21
theorem sc_law : FnScope ["_law_script", "_law_net_here", "_law_counts", "_law_cell_here", "_law_dark", "_law_every", "_law_state_here", "_law_before", "_law_full", "_law_draws_here", "_law_far", "_law_part", "_law_items", "_law_place", "_law_wrong", "_law_k", "_law_one", "_law_at", "_law_parts"] ["_law_script"] (defScope s_law) := ⟨rfl, rfl, rfl, by decide +kernel, rfl, by decide +kernel, by decide +kernel⟩
theorem ok_law (B : Bs K mg W) (hW : W.rc.xa = none) {fl : Addr} {fd : FuncData} (Fl : Fun K "law" "law" s_law fl fd) (c_check_state : Cal P w K mg base W "check_state" 2 2 f_check_state) (c_is_full : Cal P w K mg base W "is_full" 1 2 f_is_full) (c_law_cell : Cal P w K mg base W "_law_cell" 1 2 f_law_cell) (c_law_draws : Cal P w K mg base W "_law_draws" 1 2 f_law_draws) (c_law_net : Cal P w K mg base W "_law_net" 2 3 f_law_net) (c_law_state : Cal P w K mg base W "_law_state" 3 2 f_law_state) (c_law_refused : Cal P w K mg base W "_law_refused" 3 2 f_law_refused) : FnG P w K mg base 4 fl fd ["_law_script"] (spV K W 1 f_law) :=
  ok_fn Fl sc_law fun cdv A outer s H E hr => by
    have nd := sc_law.nd
    exact (show VSs (cxOf (L2.CX P w) P w K mg base ["_law_script", "_law_net_here", "_law_counts", "_law_cell_here", "_law_dark", "_law_every", "_law_state_here", "_law_before", "_law_full", "_law_draws_here", "_law_far", "_law_part", "_law_items", "_law_place", "_law_wrong", "_law_k", "_law_one", "_law_at", "_law_parts"] "law" (defScope s_law) fl cdv A outer s H E) W (fun _ => E) [] [] [] (defBody s_law) b_law from
  (vss_cons (o1 := []) (vs_less (o1 := List.filter (· ≠ 1) []) (vs_set (x := []) (ps_set (i := 1) nd rfl (by first | exact Or.inl rfl | exact Or.inr rfl) (ve_cal c_law_net (aC_len (aC_len (aC_len (fun _ _ h => aN_len h)))) hr (pass_fn (takes_of rfl rfl rfl rfl)) (va_cons (ve_cal c_law_cell (aC_len (aC_len (fun _ _ h => aN_len h))) hr (pass_fn (takes_of rfl rfl rfl rfl)) (va_cons (ve_v (pv 0)) (va_cons ve_int va_nil))) (va_cons (ve_cal c_law_cell (aC_len (aC_len (fun _ _ h => aN_len h))) hr (pass_fn (takes_of rfl rfl rfl rfl)) (va_cons (ve_v (pv 0)) (va_cons ve_int va_nil))) (va_cons ve_int va_nil)))))))
  (vss_cons (o1 := []) (vs_less (o1 := List.filter (· ≠ 2) []) (vs_set (x := []) (ps_set (i := 2) nd rfl (by first | exact Or.inl rfl | exact Or.inr rfl) (ve_n (vn_lst (va_cons (ve_wkB ca_len (pe_callB call_len_seq (by rfl) (B.bi "len" (by decide)) (by decide +kernel) (va_cons (ve_ix ix_seq o2_ix (ve_v (pv 1)) ve_int (fun _ _ => rfl)) va_nil))) (va_cons (ve_wkB ca_len (pe_callB call_len_seq (by rfl) (B.bi "len" (by decide)) (by decide +kernel) (va_cons (ve_ix ix_seq o2_ix (ve_v (pv 1)) ve_int (fun _ _ => rfl)) va_nil))) (va_cons (ve_wkB ca_len (pe_callB call_len_seq (by rfl) (B.bi "len" (by decide)) (by decide +kernel) (va_cons (ve_ix ix_seq o2_ix (ve_v (pv 1)) ve_int (fun _ _ => rfl)) va_nil))) va_nil))))))))
  (vss_cons (o1 := []) (vs_for (x := []) (passes_of rfl) rfl (vi_list (ve_n (vn_op op_catR on_cat (ve_n (vn_lst (va_cons ve_int (va_cons ve_int va_nil)))) (ve_n (vn_sl (ve_v (pv 0)) (vo_some ve_int) (vo_some ve_int)))))) (vg_name (pg_name (i := 3) nd rfl (by first | exact Or.inl rfl | exact Or.inr rfl)))
    (vss_cons (o1 := []) (vs_less (o1 := List.filter (· ≠ 6) []) (vs_set (x := []) (ps_set (i := 6) nd rfl (by first | exact Or.inl rfl | exact Or.inr rfl) (ve_cal c_law_state (aC_len (aC_len (fun _ _ h => aN_len h))) hr (pass_fn (takes_of rfl rfl rfl rfl)) (va_cons (ve_v (pv 3)) (va_cons (ve_v (pv 1)) va_nil))))))
    (vss_cons (o1 := []) (vs_less (o1 := List.filter (· ≠ 7) []) (vs_set (x := []) (ps_set (i := 7) nd rfl (by first | exact Or.inl rfl | exact Or.inr rfl) (ve_wkB ca_repr (pe_callB (cr_repr hr.gds hr.rep) (by rfl) (B.bi "repr" (by decide)) (by decide +kernel) (va_cons (ve_n (vn_lst (va_cons (ve_v (pv 1)) (va_cons (ve_v (pv 6)) va_nil)))) va_nil))))))
    (vss_cons (o1 := []) (vs_less (o1 := List.filter (· ≠ 8) []) (vs_set (x := []) (ps_set (i := 8) nd rfl (by first | exact Or.inl rfl | exact Or.inr rfl) (ve_cal c_is_full (aC_len (aC_len (fun _ _ h => aN_len h))) hr (pass_fn (takes_of rfl rfl rfl rfl)) (va_cons (ve_v (pv 1)) (va_cons (ve_v (pv 6)) va_nil))))))
    (vss_cons (o1 := []) (vs_if (o' := []) (vt_all (vt_w (vw_or (vt_all (vt_cmp op_notN o2_notN (ve_cal c_check_state (aC_len (aC_len (fun _ _ h => aN_len h))) hr (pass_fn (takes_of rfl rfl rfl rfl)) (va_cons (ve_v (pv 1)) (va_cons (ve_v (pv 6)) va_nil))) ve_non (nomark _))) (vw_or (vt_all (vt_not (vt_all (vt_truth (ve_isi (pe_callB call_isi (by rfl) (B.bi "isinstance" (by decide)) (by decide +kernel) (pa_cons (ve_v (pv 8)) (pa_cons (pe_bltn (by rfl) (B.bi "bool" (by decide)) (by decide +kernel) rfl) pa_nil)))))))) (vw_or (vt_all (vt_cmp (op_neA hr.room.units) o2_ne (ve_v (pv 8)) (ve_cmp (op_eqA hr.room.units) o2_eq (ve_wkB ca_len (pe_callB call_len_seq (by rfl) (B.bi "len" (by decide)) (by decide +kernel) (va_cons (ve_ix ix_seq o2_ix (ve_v (pv 6)) ve_int (fun _ _ => rfl)) va_nil))) (ve_wkB ca_len (pe_callB call_len_seq (by rfl) (B.bi "len" (by decide)) (by decide +kernel) (va_cons (ve_ix ix_seq o2_ix (ve_v (pv 1)) ve_int (fun _ _ => rfl)) va_nil))) (nomark _)) (nomark _))) (vw_or1 (vt_all (vt_cmp (op_neA hr.room.units) o2_ne (ve_wkB ca_repr (pe_callB (cr_repr hr.gds hr.rep) (by rfl) (B.bi "repr" (by decide)) (by decide +kernel) (va_cons (ve_n (vn_lst (va_cons (ve_v (pv 1)) (va_cons (ve_v (pv 6)) va_nil)))) va_nil))) (ve_v (pv 7)) (nomark _)))))))))
      (vss_one (vs_ret (ps_ret ve_bl)))
      vss_nil)
    (vss_cons (o1 := []) (vs_less (o1 := List.filter (· ≠ 9) []) (vs_set (x := []) (ps_set (i := 9) nd rfl (by first | exact Or.inl rfl | exact Or.inr rfl) (ve_cal c_law_draws (aC_len (aC_len (fun _ _ h => aN_len h))) hr (pass_fn (takes_of rfl rfl rfl rfl)) (va_cons (ve_v (pv 3)) (va_cons (ve_n (vn_lst (va_cons ve_int (va_cons ve_int va_nil)))) va_nil))))))
    (vss_cons (o1 := []) (vs_less (o1 := List.filter (· ≠ 10) []) (vs_set (x := []) (ps_set (i := 10) nd rfl (by first | exact Or.inl rfl | exact Or.inr rfl) (ve_ix ix_seq o2_ix (ve_v (pv 9)) ve_int (fun _ _ => rfl)))))
    (vss_one (vs_for (x := []) (passes_of rfl) rfl (vi_rng1 (by rfl) (B.bi "range" (by decide)) (va_cons ve_int va_nil)) (vg_name (pg_name (i := 11) nd rfl (by first | exact Or.inl rfl | exact Or.inr rfl)))
      (vss_cons (o1 := []) (vs_less (o1 := List.filter (· ≠ 12) []) (vs_set (x := []) (ps_set (i := 12) nd rfl (by first | exact Or.inl rfl | exact Or.inr rfl) (ve_n (vn_wkB cn_list (pe_callTy call_list_of (by rfl) (B.bi "list" (by decide)) (by decide +kernel) (va_cons (ve_ix ix_seq o2_ix (ve_v (pv 6)) (ve_v (pv 11)) (fun _ _ => rfl)) va_nil)))))))
      (vss_cons (o1 := []) (vs_less (o1 := List.filter (· ≠ 13) []) (vs_set (x := []) (ps_set (i := 13) nd rfl (by first | exact Or.inl rfl | exact Or.inr rfl) (ve_op op_modN o2_mod (ve_wkB ca_int (pe_callTy call_int1 (by rfl) (B.bi "int" (by decide)) (by decide +kernel) (va_cons (ve_ix ix_seq o2_ix (ve_v (pv 9)) ve_int (fun _ _ => rfl)) va_nil))) (ve_op op_add o2_add (ve_wkB ca_len (pe_callB call_len_seq (by rfl) (B.bi "len" (by decide)) (by decide +kernel) (va_cons (ve_v (pv 12)) va_nil))) ve_int)))))
      (vss_cons (o1 := [14]) (vs_less (o1 := 14 :: List.filter (· ≠ 14) []) (vs_setN (x := []) (ps_set (i := 14) nd rfl (by first | exact Or.inl rfl | exact Or.inr rfl) (vn_lst (va_cons (ve_n (vn_op op_catR on_cat (ve_v (pv 12)) (ve_n (vn_lst (va_cons (ve_op op_add o2_add (ve_ix ix_seq o2_ix (ve_v (pv 2)) (ve_v (pv 11)) (fun _ _ => rfl)) (ve_v (pv 10))) va_nil))))) (va_cons (ve_n (vn_op op_catR on_cat (ve_n (vn_lst (va_cons (ve_op op_sub o2_sub (ve_un un_neg o1_neg ve_int) (ve_v (pv 10))) va_nil))) (ve_v (pv 12)))) (va_cons (ve_n (vn_op op_catR on_cat (ve_v (pv 12)) (ve_n (vn_lst (va_cons (ve_op op_pow o2_pow ve_int ve_int) va_nil))))) (va_cons (ve_n (vn_op op_catR on_cat (ve_n (vn_lst (va_cons (ve_un un_neg o1_neg ve_int) va_nil))) (ve_v (pv 12)))) (va_cons (ve_n (vn_op op_catR on_cat (ve_v (pv 12)) (ve_n (vn_lst (va_cons (ve_ix ix_seq o2_ix (ve_v (pv 2)) (ve_v (pv 11)) (fun _ _ => rfl)) va_nil))))) va_nil)))))))))
      (vss_cons (o1 := [14]) (vs_if (o' := [14]) (vt_all (vt_cmp op_gt o2_gt (ve_wkB ca_len (pe_callB call_len_seq (by rfl) (B.bi "len" (by decide)) (by decide +kernel) (va_cons (ve_v (pv 12)) va_nil))) ve_int (nomark _)))
        (vss_cons (o1 := [14]) (vs_less (o1 := List.filter (· ≠ 17) [14]) (vs_set (x := [14]) (ps_set (i := 17) nd rfl (by first | exact Or.inl rfl | exact Or.inr rfl) (ve_op op_modN o2_mod (ve_wkB ca_int (pe_callTy call_int1 (by rfl) (B.bi "int" (by decide)) (by decide +kernel) (va_cons (ve_ix ix_seq o2_ix (ve_v (pv 9)) ve_int (fun _ _ => rfl)) va_nil))) (ve_wkB ca_len (pe_callB call_len_seq (by rfl) (B.bi "len" (by decide)) (by decide +kernel) (va_cons (ve_v (pv 12)) va_nil)))))))
        (vss_one (vs_less (o1 := 14 :: List.filter (· ≠ 14) []) (vs_setN (x := []) (ps_set (i := 14) nd rfl (by first | exact Or.inl rfl | exact Or.inr rfl) (vn_op op_catR on_cat (ve_v (pv 14)) (ve_n (vn_lst (va_cons (ve_n (vn_op op_catR on_cat (ve_n (vn_op op_catR on_cat (ve_n (vn_sl (ve_v (pv 12)) vo_none (vo_some (ve_v (pv 17))))) (ve_n (vn_lst (va_cons (ve_ix ix_seq o2_ix (ve_v (pv 12)) (ve_v (pv 17)) (fun _ _ => rfl)) va_nil))))) (ve_n (vn_sl (ve_v (pv 12)) (vo_some (ve_v (pv 17))) vo_none)))) (va_cons (ve_n (vn_op op_catR on_cat (ve_n (vn_op op_catR on_cat (ve_n (vn_sl (ve_v (pv 12)) (vo_some ve_int) vo_none)) (ve_n (vn_op op_repR on_rep (ve_n (vn_sl (ve_v (pv 12)) vo_none (vo_some ve_int))) (ve_wkB ca_int (pe_callTy call_int1 (by rfl) (B.bi "int" (by decide)) (by decide +kernel) (va_cons (ve_cmp op_gt o2_gt (ve_wkB ca_len (pe_callB call_len_seq (by rfl) (B.bi "len" (by decide)) (by decide +kernel) (va_cons (ve_v (pv 12)) va_nil))) ve_int (nomark _)) va_nil))))))) (ve_n (vn_op op_repR on_rep (ve_n (vn_op op_repR on_rep (ve_n (vn_sl (ve_v (pv 12)) vo_none (vo_some ve_int))) ve_int)) (ve_wkB ca_int (pe_callTy call_int1 (by rfl) (B.bi "int" (by decide)) (by decide +kernel) (va_cons (ve_cmp (op_eqA hr.room.units) o2_eq (ve_wkB ca_len (pe_callB call_len_seq (by rfl) (B.bi "len" (by decide)) (by decide +kernel) (va_cons (ve_v (pv 12)) va_nil))) ve_int (nomark _)) va_nil))))))) va_nil))))))))))
        vss_nil)
      (vss_cons (o1 := [14]) (vs_for (x := [14]) (passes_of rfl) rfl (vi_rng1 (by rfl) (B.bi "range" (by decide)) (va_cons (ve_op op_sub o2_sub (ve_wkB ca_len (pe_callB call_len_seq (by rfl) (B.bi "len" (by decide)) (by decide +kernel) (va_cons (ve_v (pv 12)) va_nil))) ve_int) va_nil)) (vg_name (pg_name (i := 15) nd rfl (by first | exact Or.inl rfl | exact Or.inr rfl)))
        (vss_one (vs_app (x := [14]) (ps_expr (pe_bm PySem.F.plainAttrs_list PySem.F.slot_list_append PySem.F.type_list_append mt_append (pv 14) (pa_cons (ve_n (vn_op op_catR on_cat (ve_n (vn_op op_catR on_cat (ve_n (vn_sl (ve_v (pv 12)) vo_none (vo_some (ve_v (pv 15))))) (ve_n (vn_lst (va_cons (ve_ix ix_seq o2_ix (ve_v (pv 12)) (ve_op op_add o2_add (ve_v (pv 15)) ve_int) (fun _ _ => rfl)) (va_cons (ve_ix ix_seq o2_ix (ve_v (pv 12)) (ve_v (pv 15)) (fun _ _ => rfl)) va_nil)))))) (ve_n (vn_sl (ve_v (pv 12)) (vo_some (ve_op op_add o2_add (ve_v (pv 15)) ve_int)) vo_none)))) pa_nil))))))
      (vss_cons (o1 := [14]) (vs_if (o' := [14]) (vt_all (vt_cmp op_gt o2_gt (ve_wkB ca_len (pe_callB call_len_seq (by rfl) (B.bi "len" (by decide)) (by decide +kernel) (va_cons (ve_v (pv 12)) va_nil))) ve_int (nomark _)))
        (vss_one (vs_less (o1 := 14 :: List.filter (· ≠ 14) []) (vs_setN (x := []) (ps_set (i := 14) nd rfl (by first | exact Or.inl rfl | exact Or.inr rfl) (vn_op op_catR on_cat (ve_v (pv 14)) (ve_n (vn_lst (va_cons (ve_n (vn_rev rfl (by rfl) (B.bi "list" (by decide)) (by rfl) (B.bi "reversed" (by decide)) (ve_v (pv 12)))) (va_cons (ve_n (vn_op op_catR on_cat (ve_n (vn_op op_catR on_cat (ve_n (vn_sl (ve_v (pv 12)) vo_none (vo_some (ve_v (pv 13))))) (ve_n (vn_sl (ve_v (pv 12)) vo_none (vo_some ve_int))))) (ve_n (vn_sl (ve_v (pv 12)) (vo_some (ve_v (pv 13))) vo_none)))) va_nil)))))))))
        vss_nil)
      (vss_one (vs_for (x := []) (passes_of rfl) rfl (vi_list (ve_v (pv 14))) (vg_name (pg_name (i := 16) nd rfl (by first | exact Or.inl rfl | exact Or.inr rfl)))
        (vss_less (o1 := [18]) (vss_cons (o1 := [18]) (vs_less (o1 := 18 :: List.filter (· ≠ 18) []) (vs_setN (x := []) (ps_set (i := 18) nd rfl (by first | exact Or.inl rfl | exact Or.inr rfl) (vn_lst (va_cons (ve_ix ix_seq o2_ix (ve_v (pv 6)) ve_int (fun _ _ => rfl)) (va_cons (ve_ix ix_seq o2_ix (ve_v (pv 6)) ve_int (fun _ _ => rfl)) (va_cons (ve_ix ix_seq o2_ix (ve_v (pv 6)) ve_int (fun _ _ => rfl)) va_nil)))))))
        (vss_cons (o1 := [18]) (vs_put (x := [18]) (ps_asg (ve_wkB ca_tuple (pe_callTy call_tuple_of (by rfl) (B.bi "tuple" (by decide)) (by decide +kernel) (va_cons (ve_v (pv 16)) va_nil))) (pg_sub (pv 18) (ve_v (pv 11)) set_list)))
        (vss_one (vs_if (o' := [18]) (vt_all (vt_not (vt_all (vt_truth (ve_cal c_law_refused (aC_len (aC_len (fun _ _ h => aN_len h))) hr (pass_fn (takes_of rfl rfl rfl rfl)) (va_cons (ve_v (pv 1)) (va_cons (ve_tup (va_cons (ve_ix ix_seq o2_ix (ve_v (pv 18)) ve_int (fun _ _ => rfl)) (va_cons (ve_ix ix_seq o2_ix (ve_v (pv 18)) ve_int (fun _ _ => rfl)) (va_cons (ve_ix ix_seq o2_ix (ve_v (pv 18)) ve_int (fun _ _ => rfl)) va_nil)))) va_nil)))))))
          (vss_one (vs_ret (ps_ret ve_bl)))
          vss_nil))))))))))))))))))))))
  (vss_cons (o1 := []) (vs_less (o1 := List.filter (· ≠ 4) []) (vs_set (x := []) (ps_set (i := 4) nd rfl (by first | exact Or.inl rfl | exact Or.inr rfl) (ve_tup (va_cons (ve_tup va_nil) (va_cons (ve_tup va_nil) (va_cons (ve_tup va_nil) va_nil)))))))
  (vss_cons (o1 := []) (vs_less (o1 := List.filter (· ≠ 5) []) (vs_set (x := []) (ps_set (i := 5) nd rfl (by first | exact Or.inl rfl | exact Or.inr rfl) (ve_tup (va_cons (ve_wkB ca_tuple (pe_callTy call_tuple_of (by rfl) (B.bi "tuple" (by decide)) (by decide +kernel) (va_cons (ve_n (vn_lc (own := [("_law_k", 15)]) rfl nd (vi_rng1 (by rfl) (B.bi "range" (by decide)) (va_cons (ve_ix ix_seq o2_ix (ve_v (pv 2)) ve_int (fun _ _ => rfl)) va_nil)) (blkOk_by (N := ["_law_script", "_law_net_here", "_law_counts", "_law_cell_here", "_law_dark", "_law_every", "_law_state_here", "_law_before", "_law_full", "_law_draws_here", "_law_far", "_law_part", "_law_items", "_law_place", "_law_wrong", "_law_k", "_law_one", "_law_at", "_law_parts"]) (sc := defScope s_law) (by decide +kernel)) (fun _ _ _ _ _ => (vg_name (pg_name (i := 15) nd rfl (by first | exact Or.inl rfl | exact Or.inr rfl)))) (fun _ _ _ _ _ => vts_nil) (fun _ _ _ _ _ => (ve_v (pv 15))))) va_nil))) (va_cons (ve_wkB ca_tuple (pe_callTy call_tuple_of (by rfl) (B.bi "tuple" (by decide)) (by decide +kernel) (va_cons (ve_n (vn_lc (own := [("_law_k", 15)]) rfl nd (vi_rng1 (by rfl) (B.bi "range" (by decide)) (va_cons (ve_ix ix_seq o2_ix (ve_v (pv 2)) ve_int (fun _ _ => rfl)) va_nil)) (blkOk_by (N := ["_law_script", "_law_net_here", "_law_counts", "_law_cell_here", "_law_dark", "_law_every", "_law_state_here", "_law_before", "_law_full", "_law_draws_here", "_law_far", "_law_part", "_law_items", "_law_place", "_law_wrong", "_law_k", "_law_one", "_law_at", "_law_parts"]) (sc := defScope s_law) (by decide +kernel)) (fun _ _ _ _ _ => (vg_name (pg_name (i := 15) nd rfl (by first | exact Or.inl rfl | exact Or.inr rfl)))) (fun _ _ _ _ _ => vts_nil) (fun _ _ _ _ _ => (ve_v (pv 15))))) va_nil))) (va_cons (ve_wkB ca_tuple (pe_callTy call_tuple_of (by rfl) (B.bi "tuple" (by decide)) (by decide +kernel) (va_cons (ve_n (vn_lc (own := [("_law_k", 15)]) rfl nd (vi_rng1 (by rfl) (B.bi "range" (by decide)) (va_cons (ve_ix ix_seq o2_ix (ve_v (pv 2)) ve_int (fun _ _ => rfl)) va_nil)) (blkOk_by (N := ["_law_script", "_law_net_here", "_law_counts", "_law_cell_here", "_law_dark", "_law_every", "_law_state_here", "_law_before", "_law_full", "_law_draws_here", "_law_far", "_law_part", "_law_items", "_law_place", "_law_wrong", "_law_k", "_law_one", "_law_at", "_law_parts"]) (sc := defScope s_law) (by decide +kernel)) (fun _ _ _ _ _ => (vg_name (pg_name (i := 15) nd rfl (by first | exact Or.inl rfl | exact Or.inr rfl)))) (fun _ _ _ _ _ => vts_nil) (fun _ _ _ _ _ => (ve_v (pv 15))))) va_nil))) va_nil)))))))
  (vss_one (vs_ret (ps_ret (ve_and (ve_cmp op_isN o2_isN (ve_cal c_check_state (aC_len (aC_len (fun _ _ h => aN_len h))) hr (pass_fn (takes_of rfl rfl rfl rfl)) (va_cons (ve_v (pv 1)) (va_cons (ve_v (pv 4)) va_nil))) ve_non (nomark _)) (ve_and (ve_cmp op_isN o2_isN (ve_cal c_check_state (aC_len (aC_len (fun _ _ h => aN_len h))) hr (pass_fn (takes_of rfl rfl rfl rfl)) (va_cons (ve_v (pv 1)) (va_cons (ve_v (pv 5)) va_nil))) ve_non (nomark _)) (ve_and (ve_cmp op_is_bl o2_isB (ve_cal c_is_full (aC_len (aC_len (fun _ _ h => aN_len h))) hr (pass_fn (takes_of rfl rfl rfl rfl)) (va_cons (ve_v (pv 1)) (va_cons (ve_v (pv 5)) va_nil))) ve_bl (nomark _)) (ve_one (ve_cmp (op_eqA hr.room.units) o2_eq (ve_cal c_is_full (aC_len (aC_len (fun _ _ h => aN_len h))) hr (pass_fn (takes_of rfl rfl rfl rfl)) (va_cons (ve_v (pv 1)) (va_cons (ve_v (pv 4)) va_nil))) (ve_cmp (op_eqA hr.room.units) o2_eq (ve_ix ix_seq o2_ix (ve_v (pv 2)) ve_int (fun _ _ => rfl)) ve_int (nomark _)) (nomark _)))))))))))))))

end
end Lw

set_option Elab.async false
set_option linter.all false
set_option maxRecDepth 100000
set_option maxHeartbeats 4000000
/-! PB: the plain laws, what all laws share: cells, draws. -/
namespace Lw
open PySem Vx

theorem seq_nx {a b : SF} {ρ ρ' : VEnv} (h : a ρ = .ok (.nx ρ')) : sSeq a b ρ = b ρ' := by unfold sSeq; rw [h]; rfl
theorem seq_rt {a b : SF} {ρ : VEnv} {d : D} (h : a ρ = .ok (.rt d)) : sSeq a b ρ = .ok (.rt d) := by unfold sSeq; rw [h]; rfl
theorem set_nx {i : Nat} {e : EF} {ρ : VEnv} {d : D} (h : e ρ = .ok d) : sSet i e ρ = .ok (.nx (ρ.set i (some d))) := by unfold sSet; rw [h]; rfl
theorem if_t {t : TF} {a b : SF} {ρ : VEnv} (h : t ρ = .ok true) : sIf t a b ρ = a ρ := by unfold sIf; rw [h]; rfl
theorem if_f {t : TF} {a b : SF} {ρ : VEnv} (h : t ρ = .ok false) : sIf t a b ρ = b ρ := by unfold sIf; rw [h]; rfl
theorem fn_rt {n : Nat} {b : SF} {ds : List D} {d : D} (h : b (ds.map some ++ List.replicate (n - ds.length) none) = .ok (.rt d)) : fnF n b ds = .ok d := by unfold fnF; rw [h]; rfl
theorem fn_nx {n : Nat} {b : SF} {ds : List D} {ρ : VEnv} (h : b (ds.map some ++ List.replicate (n - ds.length) none) = .ok (.nx ρ)) : fnF n b ds = .ok .none := by unfold fnF; rw [h]; rfl
theorem fn_ex {n c : Nat} {b : SF} {ds : List D} (h : b (ds.map some ++ List.replicate (n - ds.length) none) = .ex c) : fnF n b ds = .ex c := by unfold fnF; rw [h]; rfl
theorem for_go {i : AF} {g : GF} {b : SF} {ρ : VEnv} {ds : List D} (h : i ρ = .ok ds) (hl : ds.length ≤ big) : sFor i g b ρ = forGo g b ds ρ := by
  unfold sFor
  rw [h]
  show (if ds.length ≤ big then forGo g b ds ρ else .no) = _
  rw [if_pos hl]
theorem for_cons {g : GF} {b : SF} {ρ ρ1 ρ2 : VEnv} {d : D} {ds : List D} (h1 : g d ρ = .ok ρ1) (h2 : b ρ1 = .ok (.nx ρ2)) : forGo g b (d :: ds) ρ = forGo g b ds ρ2 := by
  show (noX (g d ρ)).bind _ = _
  rw [h1]
  show (b ρ1).bind _ = _
  rw [h2]
  rfl
theorem for_nil {g : GF} {b : SF} {ρ : VEnv} : forGo g b [] ρ = .ok (.nx ρ) := rfl

/-! ### cells of the script -/
def cellI (ns : List Int) (k : Nat) : Int := if h : k < ns.length then ns[k] else 0
theorem cell_eq (ns : List Int) (k : Nat) : f_law_cell [.list (ns.map .int), .int k] = .ok (.int (cellI ns k)) := by
  apply fn_rt
  show b_law_cell [some (.list (ns.map .int)), some (.int k)] = _
  by_cases h : k < ns.length
  · simp [b_law_cell, sSeq, sIf, sRet, sNop, tB, e2, eF, aC, aN, eV, eC, look, fLen, ltD, intD2, asB, ixD, fInt, itemAt, ixAt, h, R.bind, cellI]
  · simp [b_law_cell, sSeq, sIf, sRet, sNop, tB, e2, eF, aC, aN, eV, eC, look, fLen, ltD, intD2, asB, ixD, fInt, itemAt, ixAt, h, R.bind, cellI]

/-! ### draws -/
/-- one turn of the draws: (rest, state, what is drawn) -/
def drawStep (fr : Bool) (r s l : Int) : Int × Int × Int :=
  if fr && decide (1 < r) then (r.fdiv l, s, r.fmod l)
  else
    let s1 := (s * 48271 + 11).fmod 2147483647
    let s2 := (s1 * 69621 + 7).fmod 2147483647
    (r, s2, (s2.fdiv 13).fmod l)
def drawGo (fr : Bool) : Int → Int → List Int → List Int
  | _, _, [] => []
  | r, s, l :: ls => (drawStep fr r s l).2.2 :: drawGo fr (drawStep fr r s l).1 (drawStep fr r s l).2.1 ls
def absI (c : Int) : Int := if c < 0 then -c else c
def draws (c : Int) (ls : List Int) : List Int := drawGo (decide (c < 0) || decide (10 ^ 18 ≤ c)) (absI c) ((absI c).fmod 2147483647) ls
theorem drawGo_len (fr : Bool) : ∀ (r s : Int) (ls : List Int), (drawGo fr r s ls).length = ls.length
  | _, _, [] => rfl
  | r, s, l :: ls => by simp [drawGo, drawGo_len fr]
theorem fmod_lt {a b : Int} (h : 0 < b) : 0 ≤ a.fmod b ∧ a.fmod b < b := by
  rw [Int.fmod_eq_emod_of_nonneg _ (by omega)]
  exact ⟨Int.emod_nonneg _ (by omega), Int.emod_lt_of_pos _ h⟩
theorem drawStep_lt (fr : Bool) (r s l : Int) (h : 0 < l) : 0 ≤ (drawStep fr r s l).2.2 ∧ (drawStep fr r s l).2.2 < l := by
  unfold drawStep
  split
  · exact fmod_lt h
  · exact fmod_lt h
theorem drawGo_lt (fr : Bool) : ∀ (r s : Int) (ls : List Int), (∀ l ∈ ls, 0 < l) → ∀ (i : Nat) (v k : Int), (drawGo fr r s ls)[i]? = some v → ls[i]? = some k → 0 ≤ v ∧ v < k
  | _, _, [], _, _, _, _, h, _ => by simp [drawGo] at h
  | r, s, l :: ls, hl, 0, v, k, h1, h2 => by
    simp [drawGo] at h1 h2
    subst h1; subst h2
    exact drawStep_lt fr r s l (hl l List.mem_cons_self)
  | r, s, l :: ls, hl, i + 1, v, k, h1, h2 => by
    simp only [drawGo, List.getElem?_cons_succ] at h1 h2
    exact drawGo_lt fr _ _ ls (fun x hx => hl x (List.mem_cons_of_mem _ hx)) i v k h1 h2
def drawBody : SF := (sIf (tAn (tTr (eV 5)) (tB (e2 gtD (eV 3) (eC (.int 1)))))
      (sSeq (sApp 2 (e2 modD (eF fInt (aC (eV 3) aN)) (eV 6)))
      (sSet 3 (e2 divD (eV 3) (eV 6))))
      (sSeq (sSet 4 (e2 modD (eF fInt (aC (e2 addD (e2 mulD (eV 4) (eC (.int 48271))) (eC (.int 11))) aN)) (eC (.int 2147483647))))
      (sSeq (sSet 4 (e2 modD (eF fInt (aC (e2 addD (e2 mulD (eV 4) (eC (.int 69621))) (eC (.int 7))) aN)) (eC (.int 2147483647))))
      (sApp 2 (e2 modD (eF fInt (aC (e2 divD (eV 4) (eC (.int 13))) aN)) (eV 6))))))
theorem draw_turn (c ls : Option D) (fs : List D) (fr : Bool) (r s l : Int) (hf : fs.length < big) (hl : 0 < l) (hb : l < 1073741824) :
    drawBody [c, ls, some (.list fs), some (.int r), some (.int s), some (.bool fr), some (.int l)] =
      .ok (.nx [c, ls, some (.list (fs ++ [.int (drawStep fr r s l).2.2])), some (.int (drawStep fr r s l).1), some (.int (drawStep fr r s l).2.1), some (.bool fr), some (.int l)]) := by
  have h1 : l ≠ 0 := by omega
  have h2 : l.natAbs < 1073741824 := by omega
  cases fr with
  | false => simp [drawBody, drawStep, sSeq, sIf, sSet, sApp, tAn, tTr, truD, eV, look, R.bind, e2, e1, eC, mulD, addD, intD2, modD, divD, eF, fInt, aC, aN, h1, h2, hf]
  | true =>
    by_cases h : 1 < r
    · simp [drawBody, drawStep, sSeq, sIf, sSet, sApp, tAn, tTr, tB, asB, gtD, truD, eV, look, R.bind, e2, e1, eC, mulD, addD, intD2, modD, divD, eF, fInt, aC, aN, h1, h2, hf, h]
    · simp [drawBody, drawStep, sSeq, sIf, sSet, sApp, tAn, tTr, tB, asB, gtD, truD, eV, look, R.bind, e2, e1, eC, mulD, addD, intD2, modD, divD, eF, fInt, aC, aN, h1, h2, hf, h]
theorem draw_loop (c lsD : Option D) (fr : Bool) : ∀ (ls : List Int) (fs : List D) (r s : Int) (x : Option D), (∀ l ∈ ls, 0 < l ∧ l < 1073741824) → fs.length + ls.length ≤ big →
    ∃ r' s' x', forGo (gN 6) drawBody (ls.map .int) [c, lsD, some (.list fs), some (.int r), some (.int s), some (.bool fr), x] = .ok (.nx [c, lsD, some (.list (fs ++ (drawGo fr r s ls).map .int)), some (.int r'), some (.int s'), some (.bool fr), x'])
  | [], fs, r, s, x, _, _ => ⟨r, s, x, by simp [drawGo]; rfl⟩
  | l :: ls, fs, r, s, x, h, hb => by
    have hl := h l List.mem_cons_self
    simp only [List.length_cons] at hb
    have t := draw_turn c lsD fs fr r s l (by omega) hl.1 hl.2
    obtain ⟨r', s', x', e⟩ := draw_loop c lsD fr ls (fs ++ [.int (drawStep fr r s l).2.2]) (drawStep fr r s l).1 (drawStep fr r s l).2.1 (some (.int l)) (fun y hy => h y (List.mem_cons_of_mem _ hy)) (by simp; omega)
    refine ⟨r', s', x', ?_⟩
    rw [List.map_cons, for_cons (ρ1 := [c, lsD, some (.list fs), some (.int r), some (.int s), some (.bool fr), some (.int l)]) rfl t, e]
    simp [drawGo]
theorem draws_eq (c : Int) (ls : List Int) (h : ∀ l ∈ ls, 0 < l ∧ l < 1073741824) (hb : ls.length ≤ big) : f_law_draws [.int c, .list (ls.map .int)] = .ok (.list ((draws c ls).map .int)) := by
  apply fn_rt
  show b_law_draws [some (.int c), some (.list (ls.map .int)), none, none, none, none, none] = _
  have pre : ∀ (k : SF), (sSeq (sSet 2 (eLst aN)) (sSeq (sSet 3 (eF fAbs (aC (eF fInt (aC (eV 0) aN)) aN))) (sSeq (sSet 4 (e2 modD (eF fInt (aC (eV 3) aN)) (eC (.int 2147483647)))) (sSeq (sSet 5 (eOr (e2 ltD (eV 0) (eC (.int 0))) (e2 geD (eV 0) (e2 powD (eC (.int 10)) (eC (.int 18)))))) k))))
      [some (.int c), some (.list (ls.map .int)), none, none, none, none, none] = k [some (.int c), some (.list (ls.map .int)), some (.list []), some (.int (absI c)), some (.int ((absI c).fmod 2147483647)), some (.bool (decide (c < 0) || decide (10 ^ 18 ≤ c))), none] := fun k => by
    by_cases h0 : c < 0
    · simp [sSeq, sSet, eLst, aN, eF, fAbs, aC, fInt, eV, look, R.bind, e2, modD, eC, eOr, ltD, intD2, geD, powD, asB, absI, h0, big]
    · simp [sSeq, sSet, eLst, aN, eF, fAbs, aC, fInt, eV, look, R.bind, e2, modD, eC, eOr, ltD, intD2, geD, powD, asB, absI, h0, big]
  unfold b_law_draws
  rw [pre]
  obtain ⟨r', s', x', e⟩ := draw_loop (some (.int c)) (some (.list (ls.map .int))) (decide (c < 0) || decide (10 ^ 18 ≤ c)) ls [] (absI c) ((absI c).fmod 2147483647) none h (by simpa using hb)
  rw [seq_nx (ρ' := _) (by rw [for_go (ds := ls.map .int) rfl (by simpa using hb)]; exact e)]
  rfl
theorem draws_len (c : Int) (ls : List Int) : (draws c ls).length = ls.length := drawGo_len _ _ _ _
theorem draws_lt {c : Int} {ls : List Int} (h : ∀ l ∈ ls, 0 < l) {i : Nat} {v l : Int} (h1 : (draws c ls)[i]? = some v) (h2 : ls[i]? = some l) : 0 ≤ v ∧ v < l := drawGo_lt _ _ _ ls h i v l h1 h2
end Lw

set_option Elab.async false
set_option linter.all false
set_option maxRecDepth 100000
set_option maxHeartbeats 4000000
/-! PN: the plain laws: nets, what the law draws. -/
namespace Lw
open PySem Vx

structure Ln where
  a : Int
  b : Int
  s : Int
  l : Int
structure Sn where
  n : Int
  lo : Int
  hi : Int
  own : Bool
structure Ld where
  n : Int
  m : Int
structure Net where
  n : Int
  ls : List Ln
  ss : List Sn
  ds : List Ld
def lnD (x : Ln) : D := .tuple [.int x.a, .int x.b, .int x.s, .int x.l]
def snD (x : Sn) : D := .tuple [.int x.n, .int x.lo, .int x.hi, .bool x.own]
def ldD (x : Ld) : D := .tuple [.int x.n, .int x.m]
def netD (N : Net) : D := .tuple [.int N.n, .list (N.ls.map lnD), .list (N.ss.map snD), .list (N.ds.map ldD)]
def okLn (n : Int) (x : Ln) : Bool := decide (0 ≤ x.a) && decide (x.a < x.b) && decide (x.b < n) && decide (1 ≤ x.s) && decide (x.s ≤ 1000) && decide (0 ≤ x.l) && decide (x.l ≤ 1000)
def okSn (n : Int) (x : Sn) : Bool := decide (0 ≤ x.n) && decide (x.n < n) && decide (0 ≤ x.lo) && decide (x.lo ≤ x.hi) && decide (x.hi ≤ 1000)
def okLd (n : Int) (x : Ld) : Bool := decide (0 ≤ x.n) && decide (x.n < n) && decide (1 ≤ x.m) && decide (x.m ≤ 1000)
def okNet (N : Net) : Bool := decide (1 ≤ N.n) && decide (N.n ≤ 8) && decide (N.ls.length ≤ 8) && decide (N.ss.length ≤ 4) && decide (N.ds.length ≤ 4) && N.ls.all (okLn N.n) && N.ss.all (okSn N.n) && N.ds.all (okLd N.n)

/-! ### walks over lists, in general -/
theorem seq_ex {a b : SF} {ρ : VEnv} {c : Nat} (h : a ρ = .ex c) : sSeq a b ρ = .ex c := by unfold sSeq; rw [h]; rfl
theorem for_ex {g : GF} {b : SF} {ρ ρ1 : VEnv} {d : D} {ds : List D} {c : Nat} (h1 : g d ρ = .ok ρ1) (h2 : b ρ1 = .ex c) : forGo g b (d :: ds) ρ = .ex c := by
  show (noX (g d ρ)).bind _ = _
  rw [h1]
  show (b ρ1).bind _ = _
  rw [h2]
  rfl
/-- a loop that stores nothing for a later turn -/
theorem all_loop {α : Type} {enc : α → D} {g : GF} {b : SF} {okA : α → Bool} {S : VEnv → Prop} {c : Nat} (h : ∀ x ρ, S ρ → ∃ ρ1, g (enc x) ρ = .ok ρ1 ∧ (okA x = true → ∃ ρ2, b ρ1 = .ok (.nx ρ2) ∧ S ρ2) ∧ (okA x = false → b ρ1 = .ex c)) :
    ∀ (xs : List α) (ρ : VEnv), S ρ → (xs.all okA = true → ∃ ρ', forGo g b (xs.map enc) ρ = .ok (.nx ρ') ∧ S ρ') ∧ (xs.all okA = false → forGo g b (xs.map enc) ρ = .ex c)
  | [], ρ, hS => ⟨fun _ => ⟨ρ, rfl, hS⟩, fun z => by simp at z⟩
  | x :: xs, ρ, hS => by
    obtain ⟨ρ1, e1, h1, h2⟩ := h x ρ hS
    cases q : okA x with
    | false => exact ⟨fun z => by simp [q] at z, fun _ => for_ex e1 (h2 q)⟩
    | true =>
      obtain ⟨ρ2, e2, S2⟩ := h1 q
      obtain ⟨i1, i2⟩ := all_loop h xs ρ2 S2
      refine ⟨fun z => ?_, fun z => ?_⟩
      · rw [List.all_cons, q, Bool.true_and] at z
        rw [List.map_cons, for_cons e1 e2]
        exact i1 z
      · rw [List.all_cons, q, Bool.true_and] at z
        rw [List.map_cons, for_cons e1 e2]
        exact i2 z
theorem rangeD_succ (n : Nat) : rangeD 0 ((n + 1 : Nat) : Int) = rangeD 0 (n : Int) ++ [.int (n : Int)] := by
  simp [rangeD, List.range_succ]
/-- a for over range(n): P holds between two turns -/
theorem range_loop {g : GF} {b : SF} (n : Nat) (P : Nat → VEnv → Prop) (hs : ∀ (k : Nat) (ρ : VEnv), k < n → P k ρ → ∃ ρ1 ρ2, g (.int (k : Int)) ρ = .ok ρ1 ∧ b ρ1 = .ok (.nx ρ2) ∧ P (k + 1) ρ2) (ρ : VEnv) (h0 : P 0 ρ) :
    ∃ ρ', forGo g b (rangeD 0 (n : Int)) ρ = .ok (.nx ρ') ∧ P n ρ' := by
  have gen : ∀ (m k : Nat) (ρ : VEnv), k + m = n → P k ρ → ∃ ρ', forGo g b ((List.range m).map fun j => .int (((k + j : Nat)) : Int)) ρ = .ok (.nx ρ') ∧ P n ρ' := by
    intro m
    induction m with
    | zero =>
      intro k ρ e h
      have e2 : k = n := by omega
      subst e2
      exact ⟨ρ, rfl, h⟩
    | succ m ih =>
      intro k ρ e h
      obtain ⟨ρ1, ρ2, e1, e2, h2⟩ := hs k ρ (by omega) h
      obtain ⟨ρ', e3, h3⟩ := ih (k + 1) ρ2 (by omega) h2
      refine ⟨ρ', ?_, h3⟩
      rw [List.range_succ_eq_map, List.map_cons, List.map_map]
      rw [for_cons (ρ1 := ρ1) (ρ2 := ρ2) (by simpa using e1) e2, ← e3]
      congr 1
      apply List.map_congr_left
      intro j _
      show PyData.int _ = PyData.int _
      congr 2
      simp only [Nat.succ_eq_add_one]
      omega
  have := gen n 0 ρ (by omega) h0
  simpa [rangeD] using this

theorem len_list (xs : List D) : fLen [.list xs] = .ok (.int xs.length) := rfl
end Lw

set_option Elab.async false
set_option linter.all false
set_option maxRecDepth 100000
set_option maxHeartbeats 4000000
/-! PN2: the plain laws: the net that a law draws. -/
namespace Lw
open PySem Vx

/-- what is drawn, by the limits -/
inductive Bd : List Int → List Int → Prop
  | nil : Bd [] []
  | cons {v l : Int} {vs ls : List Int} : 0 ≤ v → v < l → Bd vs ls → Bd (v :: vs) (l :: ls)
theorem bd_of : ∀ (vs ls : List Int), vs.length = ls.length → (∀ (i : Nat) (v l : Int), vs[i]? = some v → ls[i]? = some l → 0 ≤ v ∧ v < l) → Bd vs ls
  | [], [], _, _ => .nil
  | [], _ :: _, h, _ => by simp at h
  | _ :: _, [], h, _ => by simp at h
  | v :: vs, l :: ls, h, k => .cons (k 0 v l rfl rfl).1 (k 0 v l rfl rfl).2 (bd_of vs ls (by simpa using h) fun i a b h1 h2 => k (i + 1) a b (by simpa using h1) (by simpa using h2))
theorem draws_ex (c : Int) (ls : List Int) (h : ∀ l ∈ ls, 0 < l ∧ l < 1073741824) (hb : ls.length ≤ big) : ∃ vs : List Int, f_law_draws [.int c, .list (ls.map .int)] = .ok (.list (vs.map .int)) ∧ Bd vs ls :=
  ⟨draws c ls, draws_eq c ls h hb, bd_of _ _ (draws_len c ls) fun i v l h1 h2 => draws_lt (fun x hx => (h x hx).1) h1 h2⟩
theorem eq_int (a b : Int) : eqD (.int a) (.int b) = .ok (.bool (a == b)) := by simp [eqD, okD, PyData.canLay0, PyData.depth, PyData.eqv]
theorem ne_int (a b : Int) : neD (.int a) (.int b) = .ok (.bool (!(a == b))) := by simp [neD, okD, PyData.canLay0, PyData.depth, PyData.eqv]
theorem item_ints {ps : List Int} {k : Nat} (h : k < ps.length) : itemAt (ps.map .int) (k : Int) = .ok (.int ps[k]) := by
  have e : ixAt (ps.map PyData.int).length (k : Int) = some k := by simp [ixAt, h]
  unfold itemAt
  rw [e]
  simp [h]
theorem Bd.len {vs ls : List Int} (h : Bd vs ls) : vs.length = ls.length := by
  induction h with
  | nil => rfl
  | cons _ _ _ ih => simp [ih]
theorem Bd.lt {vs ls : List Int} (h : Bd vs ls) : ∀ v ∈ vs, 0 ≤ v := by
  induction h with
  | nil => intro v hv; simp at hv
  | cons h1 h2 _ ih =>
    intro v hv
    rcases List.mem_cons.mp hv with rfl | hv
    · exact h1
    · exact ih v hv

/-! ### the three loops of the net -/
noncomputable def netLb : SF := (sSeq (sSet 11 (eF f_law_draws (aC (e2 ixD (eV 7) (eV 8)) (aC (eLst (aC (eV 4) (aC (eV 4) (aC (eC (.int 3)) (aC (eC (.int 12)) (aC (eC (.int 1000)) (aC (eC (.int 1001)) aN))))))) aN))))
    (sIf (tB (e2 neD (e2 ixD (eV 11) (eC (.int 0))) (e2 ixD (eV 11) (eC (.int 1)))))
      (sSeq (sSet 12 (eTup (aC (eF fMin2 (aC (e2 ixD (eV 11) (eC (.int 0))) (aC (e2 ixD (eV 11) (eC (.int 1))) aN))) (aC (eF fMax2 (aC (e2 ixD (eV 11) (eC (.int 0))) (aC (e2 ixD (eV 11) (eC (.int 1))) aN))) aN))))
      (sApp 6 (e2 catTD (eV 12) (e2 ixD (eLst (aC (eTup (aC (e2 addD (eC (.int 1)) (e2 ixD (eV 11) (eC (.int 2)))) (aC (e2 ixD (eV 11) (eC (.int 3))) aN))) (aC (eTup (aC (e2 addD (eC (.int 1)) (e2 ixD (eV 11) (eC (.int 4)))) (aC (e2 ixD (eV 11) (eC (.int 5))) aN))) aN))) (eF fInt (aC (eV 5) aN))))))
      sNop))
noncomputable def netSb : SF := (sSeq (sSet 11 (eF f_law_draws (aC (e2 ixD (eV 7) (e2 addD (eC (.int 7)) (eV 8))) (aC (eLst (aC (eV 4) (aC (eC (.int 6)) (aC (eC (.int 12)) (aC (eC (.int 3)) (aC (eC (.int 1001)) (aC (eC (.int 1001)) aN))))))) aN))))
    (sSeq (sAsg (gT 2 (gsC (gN 13) (gsC (gN 14) gsN))) (e2 ixD (eLst (aC (eTup (aC (e2 ixD (eV 11) (eC (.int 1))) (aC (e2 addD (e2 ixD (eV 11) (eC (.int 1))) (e2 ixD (eV 11) (eC (.int 2)))) aN))) (aC (eTup (aC (eF fMin2 (aC (e2 ixD (eV 11) (eC (.int 4))) (aC (e2 ixD (eV 11) (eC (.int 5))) aN))) (aC (eF fMax2 (aC (e2 ixD (eV 11) (eC (.int 4))) (aC (e2 ixD (eV 11) (eC (.int 5))) aN))) aN))) aN))) (eF fInt (aC (eV 5) aN))))
    (sApp 9 (eTup (aC (e2 ixD (eV 11) (eC (.int 0))) (aC (eV 13) (aC (eV 14) (aC (e2 gtD (e2 ixD (eV 11) (eC (.int 3))) (eC (.int 0))) aN))))))))
noncomputable def netDb : SF := (sSeq (sSet 11 (eF f_law_draws (aC (e2 ixD (eV 7) (e2 addD (eC (.int 11)) (eV 8))) (aC (eLst (aC (eV 4) (aC (eC (.int 9)) (aC (eC (.int 1000)) aN)))) aN))))
    (sApp 10 (eTup (aC (e2 ixD (eV 11) (eC (.int 0))) (aC (e2 ixD (eLst (aC (e2 addD (eC (.int 1)) (e2 ixD (eV 11) (eC (.int 1)))) (aC (e2 addD (eC (.int 1)) (e2 ixD (eV 11) (eC (.int 2)))) aN))) (eF fInt (aC (eV 5) aN))) aN)))))
theorem big_val : big = 100000 := rfl
section
variable (c m most dr : Option D) (n : Int) (w : Bool) (ps : List Int)
theorem netL_turn (hn : 1 ≤ n ∧ n ≤ 8) (k : Nat) (hk : k < ps.length) (xs : List Ln) (hx : xs.length < 100000) (x9 x10 x11 x12 x13 x14 : Option D) :
    ∃ (ys : List Ln) (y11 y12 : Option D), netLb [c, m, most, dr, some (.int n), some (.bool w), some (.list (xs.map lnD)), some (.list (ps.map .int)), some (.int (k : Int)), x9, x10, x11, x12, x13, x14] =
      .ok (.nx [c, m, most, dr, some (.int n), some (.bool w), some (.list ((xs ++ ys).map lnD)), some (.list (ps.map .int)), some (.int (k : Int)), x9, x10, y11, y12, x13, x14]) ∧ ys.length ≤ 1 ∧ ∀ y ∈ ys, okLn n y = true := by
  obtain ⟨vs, e, b⟩ := draws_ex (ps[k]) [n, n, 3, 12, 1000, 1001] (by intro l hl; simp at hl; omega) (by simp [big])
  rcases b with _ | ⟨a0, b0, b⟩; rcases b with _ | ⟨a1, b1, b⟩; rcases b with _ | ⟨a2, b2, b⟩; rcases b with _ | ⟨a3, b3, b⟩; rcases b with _ | ⟨a4, b4, b⟩; rcases b with _ | ⟨a5, b5, b⟩; rcases b
  rename_i v0 v1 v2 v3 v4 v5
  have st : sSet 11 (eF f_law_draws (aC (e2 ixD (eV 7) (eV 8)) (aC (eLst (aC (eV 4) (aC (eV 4) (aC (eC (.int 3)) (aC (eC (.int 12)) (aC (eC (.int 1000)) (aC (eC (.int 1001)) aN))))))) aN)))
      [c, m, most, dr, some (.int n), some (.bool w), some (.list (xs.map lnD)), some (.list (ps.map .int)), some (.int (k : Int)), x9, x10, x11, x12, x13, x14] =
      .ok (.nx [c, m, most, dr, some (.int n), some (.bool w), some (.list (xs.map lnD)), some (.list (ps.map .int)), some (.int (k : Int)), x9, x10, some (.list ([v0, v1, v2, v3, v4, v5].map .int)), x12, x13, x14]) := by
    refine set_nx ?_
    show (((itemAt (ps.map .int) (k : Int)).bind _).bind f_law_draws) = _
    rw [item_ints hk]
    exact e
  by_cases h01 : v0 = v1
  · refine ⟨[], some (.list ([v0, v1, v2, v3, v4, v5].map .int)), x12, ?_, by simp, by simp⟩
    unfold netLb
    rw [seq_nx st, if_f (by simp [tB, e2, eV, eC, look, R.bind, ixD, itemAt, ixAt, ne_int, asB, h01])]
    simp [sNop]
  · have hlt : v0 < v1 ∨ v1 < v0 := by omega
    cases w with
    | false =>
      rcases hlt with hlt | hlt
      · refine ⟨[⟨v0, v1, 1 + v2, v3⟩], some (.list ([v0, v1, v2, v3, v4, v5].map .int)), some (.tuple [.int v0, .int v1]), ?_, by simp, by simp [okLn]; omega⟩
        unfold netLb
        rw [seq_nx st, if_t (by simp [tB, e2, eV, eC, look, R.bind, ixD, itemAt, ixAt, ne_int, asB, h01])]
        have hm : ¬ v1 < v0 := by omega
        simp [sSeq, sSet, sApp, e2, eF, eTup, eLst, aC, aN, eV, eC, look, R.bind, ixD, itemAt, ixAt, fMin2, fMax2, fInt, addD, intD2, catTD, lnD, hlt, hm, hx, big_val]
      · refine ⟨[⟨v1, v0, 1 + v2, v3⟩], some (.list ([v0, v1, v2, v3, v4, v5].map .int)), some (.tuple [.int v1, .int v0]), ?_, by simp, by simp [okLn]; omega⟩
        unfold netLb
        rw [seq_nx st, if_t (by simp [tB, e2, eV, eC, look, R.bind, ixD, itemAt, ixAt, ne_int, asB, h01])]
        have hm : ¬ v0 < v1 := by omega
        simp [sSeq, sSet, sApp, e2, eF, eTup, eLst, aC, aN, eV, eC, look, R.bind, ixD, itemAt, ixAt, fMin2, fMax2, fInt, addD, intD2, catTD, lnD, hlt, hm, hx, big_val]
    | true =>
      rcases hlt with hlt | hlt
      · refine ⟨[⟨v0, v1, 1 + v4, v5⟩], some (.list ([v0, v1, v2, v3, v4, v5].map .int)), some (.tuple [.int v0, .int v1]), ?_, by simp, by simp [okLn]; omega⟩
        unfold netLb
        rw [seq_nx st, if_t (by simp [tB, e2, eV, eC, look, R.bind, ixD, itemAt, ixAt, ne_int, asB, h01])]
        have hm : ¬ v1 < v0 := by omega
        simp [sSeq, sSet, sApp, e2, eF, eTup, eLst, aC, aN, eV, eC, look, R.bind, ixD, itemAt, ixAt, fMin2, fMax2, fInt, addD, intD2, catTD, lnD, hlt, hm, hx, big_val]
      · refine ⟨[⟨v1, v0, 1 + v4, v5⟩], some (.list ([v0, v1, v2, v3, v4, v5].map .int)), some (.tuple [.int v1, .int v0]), ?_, by simp, by simp [okLn]; omega⟩
        unfold netLb
        rw [seq_nx st, if_t (by simp [tB, e2, eV, eC, look, R.bind, ixD, itemAt, ixAt, ne_int, asB, h01])]
        have hm : ¬ v0 < v1 := by omega
        simp [sSeq, sSet, sApp, e2, eF, eTup, eLst, aC, aN, eV, eC, look, R.bind, ixD, itemAt, ixAt, fMin2, fMax2, fInt, addD, intD2, catTD, lnD, hlt, hm, hx, big_val]
theorem netS_turn (hn : 1 ≤ n ∧ n ≤ 8) (k : Nat) (hk : 7 + k < ps.length) (xs : List Sn) (hx : xs.length < 100000) (x6 x10 x11 x12 x13 x14 : Option D) :
    ∃ (y : Sn) (y11 y13 y14 : Option D), netSb [c, m, most, dr, some (.int n), some (.bool w), x6, some (.list (ps.map .int)), some (.int (k : Int)), some (.list (xs.map snD)), x10, x11, x12, x13, x14] =
      .ok (.nx [c, m, most, dr, some (.int n), some (.bool w), x6, some (.list (ps.map .int)), some (.int (k : Int)), some (.list ((xs ++ [y]).map snD)), x10, y11, x12, y13, y14]) ∧ okSn n y = true := by
  obtain ⟨vs, e, b⟩ := draws_ex (ps[7 + k]) [n, 6, 12, 3, 1001, 1001] (by intro l hl; simp at hl; omega) (by simp [big])
  rcases b with _ | ⟨a0, b0, b⟩; rcases b with _ | ⟨a1, b1, b⟩; rcases b with _ | ⟨a2, b2, b⟩; rcases b with _ | ⟨a3, b3, b⟩; rcases b with _ | ⟨a4, b4, b⟩; rcases b with _ | ⟨a5, b5, b⟩; rcases b
  rename_i v0 v1 v2 v3 v4 v5
  have st : sSet 11 (eF f_law_draws (aC (e2 ixD (eV 7) (e2 addD (eC (.int 7)) (eV 8))) (aC (eLst (aC (eV 4) (aC (eC (.int 6)) (aC (eC (.int 12)) (aC (eC (.int 3)) (aC (eC (.int 1001)) (aC (eC (.int 1001)) aN))))))) aN)))
      [c, m, most, dr, some (.int n), some (.bool w), x6, some (.list (ps.map .int)), some (.int (k : Int)), some (.list (xs.map snD)), x10, x11, x12, x13, x14] =
      .ok (.nx [c, m, most, dr, some (.int n), some (.bool w), x6, some (.list (ps.map .int)), some (.int (k : Int)), some (.list (xs.map snD)), x10, some (.list ([v0, v1, v2, v3, v4, v5].map .int)), x12, x13, x14]) := by
    refine set_nx ?_
    show (((itemAt (ps.map .int) (7 + (k : Int))).bind _).bind f_law_draws) = _
    rw [show (7 + (k : Int)) = ((7 + k : Nat) : Int) by omega, item_ints hk]
    exact e
  cases w with
  | false =>
    refine ⟨⟨v0, v1, v1 + v2, decide (0 < v3)⟩, some (.list ([v0, v1, v2, v3, v4, v5].map .int)), some (.int v1), some (.int (v1 + v2)), ?_, by simp [okSn]; omega⟩
    unfold netSb
    rw [seq_nx st]
    simp [sSeq, sAsg, noX, gT, gsC, gsN, gN, sApp, e2, eF, eTup, eLst, aC, aN, eV, eC, look, R.bind, ixD, itemAt, ixAt, fMin2, fMax2, fInt, addD, gtD, intD2, snD, hx, big_val]
  | true =>
    by_cases h : v4 < v5
    · have hm : ¬ v5 < v4 := by omega
      refine ⟨⟨v0, v4, v5, decide (0 < v3)⟩, some (.list ([v0, v1, v2, v3, v4, v5].map .int)), some (.int v4), some (.int v5), ?_, by simp [okSn]; omega⟩
      unfold netSb
      rw [seq_nx st]
      simp [sSeq, sAsg, noX, gT, gsC, gsN, gN, sApp, e2, eF, eTup, eLst, aC, aN, eV, eC, look, R.bind, ixD, itemAt, ixAt, fMin2, fMax2, fInt, addD, gtD, intD2, snD, hx, big_val, h, hm]
    · by_cases h2 : v5 < v4
      · refine ⟨⟨v0, v5, v4, decide (0 < v3)⟩, some (.list ([v0, v1, v2, v3, v4, v5].map .int)), some (.int v5), some (.int v4), ?_, by simp [okSn]; omega⟩
        unfold netSb
        rw [seq_nx st]
        simp [sSeq, sAsg, noX, gT, gsC, gsN, gN, sApp, e2, eF, eTup, eLst, aC, aN, eV, eC, look, R.bind, ixD, itemAt, ixAt, fMin2, fMax2, fInt, addD, gtD, intD2, snD, hx, big_val, h, h2]
      · refine ⟨⟨v0, v4, v4, decide (0 < v3)⟩, some (.list ([v0, v1, v2, v3, v4, v5].map .int)), some (.int v4), some (.int v4), ?_, by simp [okSn]; omega⟩
        unfold netSb
        rw [seq_nx st]
        simp [sSeq, sAsg, noX, gT, gsC, gsN, gN, sApp, e2, eF, eTup, eLst, aC, aN, eV, eC, look, R.bind, ixD, itemAt, ixAt, fMin2, fMax2, fInt, addD, gtD, intD2, snD, hx, big_val, h, h2]
theorem netD_turn (hn : 1 ≤ n ∧ n ≤ 8) (k : Nat) (hk : 11 + k < ps.length) (xs : List Ld) (hx : xs.length < 100000) (x6 x9 x11 x12 x13 x14 : Option D) :
    ∃ (y : Ld) (y11 : Option D), netDb [c, m, most, dr, some (.int n), some (.bool w), x6, some (.list (ps.map .int)), some (.int (k : Int)), x9, some (.list (xs.map ldD)), x11, x12, x13, x14] =
      .ok (.nx [c, m, most, dr, some (.int n), some (.bool w), x6, some (.list (ps.map .int)), some (.int (k : Int)), x9, some (.list ((xs ++ [y]).map ldD)), y11, x12, x13, x14]) ∧ okLd n y = true := by
  obtain ⟨vs, e, b⟩ := draws_ex (ps[11 + k]) [n, 9, 1000] (by intro l hl; simp at hl; omega) (by simp [big])
  rcases b with _ | ⟨a0, b0, b⟩; rcases b with _ | ⟨a1, b1, b⟩; rcases b with _ | ⟨a2, b2, b⟩; rcases b
  rename_i v0 v1 v2
  have st : sSet 11 (eF f_law_draws (aC (e2 ixD (eV 7) (e2 addD (eC (.int 11)) (eV 8))) (aC (eLst (aC (eV 4) (aC (eC (.int 9)) (aC (eC (.int 1000)) aN)))) aN)))
      [c, m, most, dr, some (.int n), some (.bool w), x6, some (.list (ps.map .int)), some (.int (k : Int)), x9, some (.list (xs.map ldD)), x11, x12, x13, x14] =
      .ok (.nx [c, m, most, dr, some (.int n), some (.bool w), x6, some (.list (ps.map .int)), some (.int (k : Int)), x9, some (.list (xs.map ldD)), some (.list ([v0, v1, v2].map .int)), x12, x13, x14]) := by
    refine set_nx ?_
    show (((itemAt (ps.map .int) (11 + (k : Int))).bind _).bind f_law_draws) = _
    rw [show (11 + (k : Int)) = ((11 + k : Nat) : Int) by omega, item_ints hk]
    exact e
  cases w with
  | false =>
    refine ⟨⟨v0, 1 + v1⟩, some (.list ([v0, v1, v2].map .int)), ?_, by simp [okLd]; omega⟩
    unfold netDb
    rw [seq_nx st]
    simp [sApp, e2, eF, eTup, eLst, aC, aN, eV, eC, look, R.bind, ixD, itemAt, ixAt, fInt, addD, intD2, ldD, hx, big_val]
  | true =>
    refine ⟨⟨v0, 1 + v2⟩, some (.list ([v0, v1, v2].map .int)), ?_, by simp [okLd]; omega⟩
    unfold netDb
    rw [seq_nx st]
    simp [sApp, e2, eF, eTup, eLst, aC, aN, eV, eC, look, R.bind, ixD, itemAt, ixAt, fInt, addD, intD2, ldD, hx, big_val]
end
end Lw

set_option Elab.async false
set_option linter.all false
set_option maxRecDepth 100000
set_option maxHeartbeats 4000000
/-! PN3: the plain laws: the drawn net is valid. -/
namespace Lw
open PySem Vx

theorem net_body : b_law_net = sSeq (sSet 3 (eF f_law_draws (aC (eV 0) (aC (eLst (aC (eV 2) (aC (eC (.int 7)) (aC (eC (.int 4)) (aC (eC (.int 4)) (aC (eC (.int 3)) aN)))))) aN))))
  (sSeq (sSet 4 (e2 addD (eC (.int 1)) (e2 ixD (eV 3) (eC (.int 0)))))
  (sSeq (sSet 5 (e2 eqD (e2 ixD (eV 3) (eC (.int 4))) (eC (.int 0))))
  (sSeq (sSet 6 (eLst aN))
  (sSeq (sSet 7 (eF f_law_draws (aC (eV 1) (aC (e2 repD (eLst (aC (e2 powD (eC (.int 10)) (eC (.int 6))) aN)) (eC (.int 15))) aN))))
  (sSeq (sFor (iRg1 (aC (e2 ixD (eV 3) (eC (.int 1))) aN)) (gN 8) netLb)
  (sSeq (sSet 9 (eLst aN))
  (sSeq (sFor (iRg1 (aC (e2 ixD (eV 3) (eC (.int 2))) aN)) (gN 8) netSb)
  (sSeq (sSet 10 (eLst aN))
  (sSeq (sFor (iRg1 (aC (e2 ixD (eV 3) (eC (.int 3))) aN)) (gN 8) netDb)
  (sRet (eTup (aC (eV 4) (aC (eV 6) (aC (eV 9) (aC (eV 10) aN))))))))))))))) := rfl
theorem rangeD_length (k : Nat) : (rangeD 0 (k : Int)).length = k := by simp [rangeD]
/-- a for over range(k) -/
theorem for_range {ga : AF} {g : GF} {b : SF} {ρ : VEnv} (k : Nat) (hk : k ≤ 1000) (hi : ga ρ = .ok [.int (k : Int)]) (P : Nat → VEnv → Prop) (hs : ∀ (j : Nat) (ρ : VEnv), j < k → P j ρ → ∃ ρ1 ρ2, g (.int (j : Int)) ρ = .ok ρ1 ∧ b ρ1 = .ok (.nx ρ2) ∧ P (j + 1) ρ2) (h0 : P 0 ρ) :
    ∃ ρ', sFor (iRg1 ga) g b ρ = .ok (.nx ρ') ∧ P k ρ' := by
  obtain ⟨ρ', e, h⟩ := range_loop k P hs ρ h0
  refine ⟨ρ', ?_, h⟩
  have c : -(2 ^ 62) ≤ (k : Int) ∧ (k : Int) < 2 ^ 62 := by omega
  have hr : rng1 [.int (k : Int)] = .ok (rangeD 0 (k : Int)) := by
    simp only [rng1]
    rw [if_pos c]
  rw [for_go (ds := rangeD 0 (k : Int)) (by simp only [iRg1, hi, R.bind, hr]) (by rw [rangeD_length, big_val]; omega)]
  exact e
theorem net_ex (c m most : Int) (h : 1 ≤ most ∧ most ≤ 8) : ∃ N : Net, f_law_net [.int c, .int m, .int most] = .ok (netD N) ∧ 1 ≤ N.n ∧ N.n ≤ most ∧ N.ls.length ≤ 6 ∧ N.ss.length ≤ 3 ∧ N.ds.length ≤ 3 ∧ N.ls.all (okLn N.n) = true ∧ N.ss.all (okSn N.n) = true ∧ N.ds.all (okLd N.n) = true := by
  obtain ⟨vs, e, b⟩ := draws_ex c [most, 7, 4, 4, 3] (by intro l hl; simp at hl; omega) (by simp [big])
  rcases b with _ | ⟨a0, b0, b⟩; rcases b with _ | ⟨a1, b1, b⟩; rcases b with _ | ⟨a2, b2, b⟩; rcases b with _ | ⟨a3, b3, b⟩; rcases b with _ | ⟨a4, b4, b⟩; rcases b
  rename_i v0 v1 v2 v3 v4
  obtain ⟨ps, e', b'⟩ := draws_ex m (List.replicate 15 1000000) (by intro l hl; rw [List.eq_of_mem_replicate hl]; decide) (by simp [big])
  have pl : ps.length = 15 := by rw [b'.len]; simp
  obtain ⟨k1, rfl⟩ := Int.eq_ofNat_of_zero_le a1
  obtain ⟨k2, rfl⟩ := Int.eq_ofNat_of_zero_le a2
  obtain ⟨k3, rfl⟩ := Int.eq_ofNat_of_zero_le a3
  let dr : Option D := some (.list ([v0, (k1 : Int), (k2 : Int), (k3 : Int), v4].map .int))
  let P : Option D := some (.list (ps.map .int))
  let w : Bool := v4 == 0
  have pre : ∀ k : SF, sSeq (sSet 3 (eF f_law_draws (aC (eV 0) (aC (eLst (aC (eV 2) (aC (eC (.int 7)) (aC (eC (.int 4)) (aC (eC (.int 4)) (aC (eC (.int 3)) aN)))))) aN))))
      (sSeq (sSet 4 (e2 addD (eC (.int 1)) (e2 ixD (eV 3) (eC (.int 0)))))
      (sSeq (sSet 5 (e2 eqD (e2 ixD (eV 3) (eC (.int 4))) (eC (.int 0))))
      (sSeq (sSet 6 (eLst aN))
      (sSeq (sSet 7 (eF f_law_draws (aC (eV 1) (aC (e2 repD (eLst (aC (e2 powD (eC (.int 10)) (eC (.int 6))) aN)) (eC (.int 15))) aN)))) k))))
      [some (.int c), some (.int m), some (.int most), none, none, none, none, none, none, none, none, none, none, none, none] =
      k [some (.int c), some (.int m), some (.int most), dr, some (.int (1 + v0)), some (.bool w), some (.list []), P, none, none, none, none, none, none, none] := fun k => by
    rw [seq_nx (ρ' := [some (.int c), some (.int m), some (.int most), dr, none, none, none, none, none, none, none, none, none, none, none]) (set_nx e)]
    rw [seq_nx (ρ' := [some (.int c), some (.int m), some (.int most), dr, some (.int (1 + v0)), none, none, none, none, none, none, none, none, none, none]) (set_nx rfl)]
    rw [seq_nx (ρ' := [some (.int c), some (.int m), some (.int most), dr, some (.int (1 + v0)), some (.bool w), none, none, none, none, none, none, none, none, none]) (set_nx (eq_int v4 0))]
    rw [seq_nx (ρ' := [some (.int c), some (.int m), some (.int most), dr, some (.int (1 + v0)), some (.bool w), some (.list []), none, none, none, none, none, none, none, none]) (set_nx rfl)]
    rw [seq_nx (ρ' := [some (.int c), some (.int m), some (.int most), dr, some (.int (1 + v0)), some (.bool w), some (.list []), P, none, none, none, none, none, none, none]) (set_nx e')]
  have hn : 1 ≤ 1 + v0 ∧ 1 + v0 ≤ 8 := by omega
  -- the lines
  obtain ⟨ρ1, f1, xs, x8, x11, x12, rfl, l1, o1⟩ := for_range (ρ := [some (.int c), some (.int m), some (.int most), dr, some (.int (1 + v0)), some (.bool w), some (.list []), P, none, none, none, none, none, none, none]) (ga := aC (e2 ixD (eV 3) (eC (.int 1))) aN) (g := gN 8) (b := netLb) k1 (by omega) rfl
    (fun j ρ => ∃ (xs : List Ln) (x8 x11 x12 : Option D), ρ = [some (.int c), some (.int m), some (.int most), dr, some (.int (1 + v0)), some (.bool w), some (.list (xs.map lnD)), P, x8, none, none, x11, x12, none, none] ∧ xs.length ≤ j ∧ ∀ y ∈ xs, okLn (1 + v0) y = true)
    (fun j ρ hj => by
      rintro ⟨xs, x8, x11, x12, rfl, l, o⟩
      obtain ⟨ys, y11, y12, t, ly, oy⟩ := netL_turn (some (.int c)) (some (.int m)) (some (.int most)) dr (1 + v0) w ps hn j (by omega) xs (by omega) none none x11 x12 none none
      exact ⟨_, _, rfl, t, xs ++ ys, _, y11, y12, rfl, by rw [List.length_append]; omega, fun y hy => (List.mem_append.mp hy).elim (o y) (oy y)⟩) ⟨[], none, none, none, rfl, Nat.le_refl _, fun y hy => by simp at hy⟩
  -- the stations
  obtain ⟨ρ2, f2, ss, z8, z11, z13, z14, rfl, l2, o2⟩ := for_range (ρ := [some (.int c), some (.int m), some (.int most), dr, some (.int (1 + v0)), some (.bool w), some (.list (xs.map lnD)), P, x8, some (.list []), none, x11, x12, none, none]) (ga := aC (e2 ixD (eV 3) (eC (.int 2))) aN) (g := gN 8) (b := netSb) k2 (by omega) rfl
    (fun j ρ => ∃ (ss : List Sn) (x8 x11 x13 x14 : Option D), ρ = [some (.int c), some (.int m), some (.int most), dr, some (.int (1 + v0)), some (.bool w), some (.list (xs.map lnD)), P, x8, some (.list (ss.map snD)), none, x11, x12, x13, x14] ∧ ss.length ≤ j ∧ ∀ y ∈ ss, okSn (1 + v0) y = true)
    (fun j ρ hj => by
      rintro ⟨ss, x8, x11, x13, x14, rfl, l, o⟩
      obtain ⟨y, y11, y13, y14, t, oy⟩ := netS_turn (some (.int c)) (some (.int m)) (some (.int most)) dr (1 + v0) w ps hn j (by omega) ss (by omega) (some (.list (xs.map lnD))) none x11 x12 x13 x14
      exact ⟨_, _, rfl, t, ss ++ [y], _, y11, y13, y14, rfl, by rw [List.length_append, List.length_singleton]; omega, fun z hz => (List.mem_append.mp hz).elim (o z) fun hz => by
        rw [List.mem_singleton.mp hz]; exact oy⟩) ⟨[], x8, x11, none, none, rfl, Nat.le_refl _, fun y hy => by simp at hy⟩
  -- the loads
  obtain ⟨ρ3, f3, ds, u8, u11, rfl, l3, o3⟩ := for_range (ρ := [some (.int c), some (.int m), some (.int most), dr, some (.int (1 + v0)), some (.bool w), some (.list (xs.map lnD)), P, z8, some (.list (ss.map snD)), some (.list []), z11, x12, z13, z14]) (ga := aC (e2 ixD (eV 3) (eC (.int 3))) aN) (g := gN 8) (b := netDb) k3 (by omega) rfl
    (fun j ρ => ∃ (ds : List Ld) (x8 x11 : Option D), ρ = [some (.int c), some (.int m), some (.int most), dr, some (.int (1 + v0)), some (.bool w), some (.list (xs.map lnD)), P, x8, some (.list (ss.map snD)), some (.list (ds.map ldD)), x11, x12, z13, z14] ∧ ds.length ≤ j ∧ ∀ y ∈ ds, okLd (1 + v0) y = true)
    (fun j ρ hj => by
      rintro ⟨ds, x8, x11, rfl, l, o⟩
      obtain ⟨y, y11, t, oy⟩ := netD_turn (some (.int c)) (some (.int m)) (some (.int most)) dr (1 + v0) w ps hn j (by omega) ds (by omega) (some (.list (xs.map lnD))) (some (.list (ss.map snD))) x11 x12 z13 z14
      exact ⟨_, _, rfl, t, ds ++ [y], _, y11, rfl, by rw [List.length_append, List.length_singleton]; omega, fun z hz => (List.mem_append.mp hz).elim (o z) fun hz => by
        rw [List.mem_singleton.mp hz]; exact oy⟩) ⟨[], z8, z11, rfl, Nat.le_refl _, fun y hy => by simp at hy⟩
  refine ⟨⟨1 + v0, xs, ss, ds⟩, ?_, hn.1, by show 1 + v0 ≤ most; omega, by show xs.length ≤ 6; omega, by show ss.length ≤ 3; omega, by show ds.length ≤ 3; omega, List.all_eq_true.mpr o1, List.all_eq_true.mpr o2, List.all_eq_true.mpr o3⟩
  apply fn_rt
  show b_law_net [some (.int c), some (.int m), some (.int most), none, none, none, none, none, none, none, none, none, none, none, none] = _
  rw [net_body, pre, seq_nx f1, seq_nx (ρ' := [some (.int c), some (.int m), some (.int most), dr, some (.int (1 + v0)), some (.bool w), some (.list (xs.map lnD)), P, x8, some (.list []), none, x11, x12, none, none]) (set_nx rfl), seq_nx f2,
    seq_nx (ρ' := [some (.int c), some (.int m), some (.int most), dr, some (.int (1 + v0)), some (.bool w), some (.list (xs.map lnD)), P, z8, some (.list (ss.map snD)), some (.list []), z11, x12, z13, z14]) (set_nx rfl), seq_nx f3]
  rfl
theorem okNet_of {N : Net} (h : 1 ≤ N.n ∧ N.n ≤ 8 ∧ N.ls.length ≤ 8 ∧ N.ss.length ≤ 4 ∧ N.ds.length ≤ 4) (h1 : N.ls.all (okLn N.n) = true) (h2 : N.ss.all (okSn N.n) = true) (h3 : N.ds.all (okLd N.n) = true) : okNet N = true := by
  unfold okNet
  simp [h.1, h.2.1, h.2.2.1, h.2.2.2.1, h.2.2.2.2, h1, h2, h3]

/-! ### repr -/
mutual
/-- how much there is to be shown; none where it is not served -/
def shW : PyData → Nat
  | .none | .bool _ | .int _ | .str _ => 1
  | .list xs | .tuple xs => shWA xs + 1
  | .dict _ => 1
def shWA : List PyData → Nat
  | [] => 0
  | x :: xs => shW x + shWA xs
end
mutual
/-- ints below 2 ^ 60, no texts -/
def shOk : PyData → Bool
  | .none | .bool _ => true
  | .int i => decide (i.natAbs < 2 ^ 60)
  | .str _ | .dict _ => false
  | .list xs | .tuple xs => shOkA xs
def shOkA : List PyData → Bool
  | [] => true
  | x :: xs => shOk x && shOkA xs
end
theorem int_len {i : Int} (h : i.natAbs < 2 ^ 60) : (PyData.shown (.int i)).length ≤ 62 := by
  have e := int_text_length_le10 (a := i) (k := 19) (by decide) (by omega)
  show (Str.ofString (toString i)).length ≤ 62
  rw [ofString_length]
  omega
mutual
theorem shown_len : ∀ d : PyData, shOk d = true → (PyData.shown d).length + 2 ≤ 70 * shW d
  | .none, _ => by simp only [PyData.shown, shW]; decide
  | .bool true, _ => by simp only [PyData.shown, shW]; decide
  | .bool false, _ => by simp only [PyData.shown, shW]; decide
  | .int i, h => by
    have := int_len (i := i) (by simpa [shOk] using h)
    simp only [shW]
    omega
  | .str _, h => by simp [shOk] at h
  | .dict _, h => by simp [shOk] at h
  | .list xs, h => by
    have e := listText_len_le (PyData.shownAll xs)
    have r := shownA_len xs (by simpa [shOk] using h)
    simp only [PyData.shown, shW]
    omega
  | .tuple xs, h => by
    have e := tupleText_len_le (PyData.shownAll xs)
    have r := shownA_len xs (by simpa [shOk] using h)
    simp only [PyData.shown, shW]
    omega
theorem shownA_len : ∀ xs : List PyData, shOkA xs = true → ((PyData.shownAll xs).map (·.length)).sum + 2 * (PyData.shownAll xs).length ≤ 70 * shWA xs
  | [], _ => by simp [PyData.shownAll, shWA]
  | x :: xs, h => by
    have h' : shOk x = true ∧ shOkA xs = true := by simpa [shOkA] using h
    have e1 := shown_len x h'.1
    have e2 := shownA_len xs h'.2
    simp only [PyData.shownAll, shWA, List.map_cons, List.sum_cons, List.length_cons]
    omega
end
mutual
theorem showable_of : ∀ d : PyData, shOk d = true → d.showable = true
  | .none, _ => by simp [PyData.showable]
  | .bool _, _ => by simp [PyData.showable]
  | .int i, h => by
    have h : i.natAbs < 2 ^ 60 := by simpa [shOk] using h
    simp only [PyData.showable, decide_eq_true_eq]
    by_cases z : i.natAbs = 0
    · rw [z]; decide
    · have := (Nat.log2_lt z (k := 60)).mpr h
      omega
  | .str _, h => by simp [shOk] at h
  | .dict _, h => by simp [shOk] at h
  | .list xs, h => by
    simp only [PyData.showable]
    exact showableA_of xs (by simpa [shOk] using h)
  | .tuple xs, h => by
    simp only [PyData.showable]
    exact showableA_of xs (by simpa [shOk] using h)
theorem showableA_of : ∀ xs : List PyData, shOkA xs = true → PyData.showableAll xs = true
  | [], _ => by simp [PyData.showableAll]
  | x :: xs, h => by
    have h' : shOk x = true ∧ shOkA xs = true := by simpa [shOkA] using h
    simp only [PyData.showableAll, Bool.and_eq_true]
    exact ⟨showable_of x h'.1, showableA_of xs h'.2⟩
end
mutual
theorem canLay_of : ∀ d : PyData, shOk d = true → d.canLay0 = true
  | .none, _ => by simp [PyData.canLay0]
  | .bool _, _ => by simp [PyData.canLay0]
  | .int i, h => by simp [PyData.canLay0]
  | .str _, h => by simp [shOk] at h
  | .dict _, h => by simp [shOk] at h
  | .list xs, h => by
    simp only [PyData.canLay0]
    exact canLayA_of xs (by simpa [shOk] using h)
  | .tuple xs, h => by
    simp only [PyData.canLay0]
    exact canLayA_of xs (by simpa [shOk] using h)
theorem canLayA_of : ∀ xs : List PyData, shOkA xs = true → PyData.canLayAll0 xs = true
  | [], _ => by simp [PyData.canLayAll0]
  | x :: xs, h => by
    have h' : shOk x = true ∧ shOkA xs = true := by simpa [shOkA] using h
    simp only [PyData.canLayAll0, Bool.and_eq_true]
    exact ⟨canLay_of x h'.1, canLayA_of xs h'.2⟩
end
theorem size_line : sizeLine = 16777216 := by rw [sizeLine_eq]
theorem repr_eq {d : D} (h : shOk d = true) (hd : d.depth ≤ 64) (hw : shW d ≤ 200000) (hf : flatD d = false) : fRepr [d] = .ok (.str d.shown) := by
  have l := shown_len d h
  have e : (d.showable && decide (d.depth ≤ 64) && decide (d.shown.length ≤ sizeLine) && okD d && !flatD d) = true := by
    have s : d.shown.length ≤ sizeLine := by rw [size_line]; omega
    simp [okD, showable_of d h, hd, s, canLay_of d h, hf]
  show (if (d.showable && decide (d.depth ≤ 64) && decide (d.shown.length ≤ sizeLine) && okD d && !flatD d) = true then R.ok (PyData.str d.shown) else .no) = _
  rw [if_pos e]
end Lw

set_option Elab.async false
set_option linter.all false
set_option maxRecDepth 100000
set_option maxHeartbeats 8000000
/-! PG: plain lemmas that every law wants. -/
namespace Lw
open PySem Vx

theorem st_set {i : Nat} {e : EF} {b : SF} {ρ : VEnv} {d : D} {r : R Out} (h : e ρ = .ok d) (k : b (ρ.set i (some d)) = r) : sSeq (sSet i e) b ρ = r := (seq_nx (set_nx h)).trans k
theorem st_nx {a b : SF} {ρ ρ' : VEnv} {r : R Out} (h : a ρ = .ok (.nx ρ')) (k : b ρ' = r) : sSeq a b ρ = r := (seq_nx h).trans k

/-! ### small nets -/
def fitL (x : Ln) : Prop := x.a.natAbs < 2 ^ 60 ∧ x.b.natAbs < 2 ^ 60 ∧ x.s.natAbs < 2 ^ 60 ∧ x.l.natAbs < 2 ^ 60
def fitS (x : Sn) : Prop := x.n.natAbs < 2 ^ 60 ∧ x.lo.natAbs < 2 ^ 60 ∧ x.hi.natAbs < 2 ^ 60
def fitD (x : Ld) : Prop := x.n.natAbs < 2 ^ 60 ∧ x.m.natAbs < 2 ^ 60
structure Fit (N : Net) : Prop where
  n : N.n.natAbs < 2 ^ 60
  l : ∀ x ∈ N.ls, fitL x
  s : ∀ x ∈ N.ss, fitS x
  d : ∀ x ∈ N.ds, fitD x
  l1 : N.ls.length ≤ 1000
  l2 : N.ss.length ≤ 1000
  l3 : N.ds.length ≤ 1000
theorem map_shok {α : Type} {f : α → D} {l : List α} (h : ∀ x ∈ l, shOk (f x) = true) : shOkA (l.map f) = true := by
  induction l with
  | nil => simp [shOkA]
  | cons a r ih =>
    simp only [List.map_cons, shOkA, Bool.and_eq_true]
    exact ⟨h a List.mem_cons_self, ih fun x hx => h x (List.mem_cons_of_mem _ hx)⟩
theorem map_shw {α : Type} {f : α → D} {l : List α} {c : Nat} (h : ∀ x, shW (f x) ≤ c) : shWA (l.map f) ≤ c * l.length := by
  induction l with
  | nil => simp [shWA]
  | cons a r ih =>
    simp only [List.map_cons, shWA, List.length_cons, Nat.mul_add, Nat.mul_one]
    have := h a
    omega
theorem map_depth {α : Type} {f : α → D} {l : List α} {c : Nat} (h : ∀ x, (f x).depth ≤ c) : PyData.depthAll (l.map f) ≤ c := by
  induction l with
  | nil => simp [PyData.depthAll]
  | cons a r ih =>
    simp only [List.map_cons, PyData.depthAll]
    have := h a
    omega
theorem fit_shok {N : Net} (h : Fit N) : shOk (netD N) = true := by
  simp only [netD, shOk, shOkA, Bool.and_true, Bool.and_eq_true, decide_eq_true_eq]
  refine ⟨h.n, map_shok fun x hx => ?_, map_shok fun x hx => ?_, map_shok fun x hx => ?_⟩
  · have := h.l x hx
    simp only [lnD, shOk, shOkA, Bool.and_true, Bool.and_eq_true, decide_eq_true_eq]
    exact this
  · have := h.s x hx
    simp only [snD, shOk, shOkA, Bool.and_true, Bool.and_eq_true, decide_eq_true_eq]
    exact this
  · have := h.d x hx
    simp only [ldD, shOk, shOkA, Bool.and_true, Bool.and_eq_true, decide_eq_true_eq]
    exact this
theorem net_depth (N : Net) : (netD N).depth ≤ 3 := by
  have a1 := map_depth (f := lnD) (l := N.ls) (c := 1) (fun x => by simp [lnD, PyData.depth, PyData.depthAll])
  have a2 := map_depth (f := snD) (l := N.ss) (c := 1) (fun x => by simp [snD, PyData.depth, PyData.depthAll])
  have a3 := map_depth (f := ldD) (l := N.ds) (c := 1) (fun x => by simp [ldD, PyData.depth, PyData.depthAll])
  simp only [netD, PyData.depth, PyData.depthAll]
  omega
theorem net_shw {N : Net} (h : Fit N) : shW (netD N) ≤ 20000 := by
  have a1 := map_shw (f := lnD) (l := N.ls) (c := 5) (fun x => by simp [lnD, shW, shWA])
  have a2 := map_shw (f := snD) (l := N.ss) (c := 5) (fun x => by simp [snD, shW, shWA])
  have a3 := map_shw (f := ldD) (l := N.ds) (c := 3) (fun x => by simp [ldD, shW, shWA])
  have := h.l1
  have := h.l2
  have := h.l3
  simp only [netD, shW, shWA]
  omega
theorem fit_repr {N : Net} (h : Fit N) : fRepr [netD N] = .ok (.str (netD N).shown) :=
  repr_eq (fit_shok h) (Nat.le_trans (net_depth N) (by decide)) (Nat.le_trans (net_shw h) (by decide)) rfl
theorem eq_str (a b : Str) : eqD (.str a) (.str b) = .ok (.bool (decide (a = b))) := rfl
theorem ne_str (a b : Str) : neD (.str a) (.str b) = .ok (.bool (!decide (a = b))) := rfl
theorem app_loop {g : GF} {b : SF} {mk : List D → Option D → VEnv} {F : D → D} (hg : ∀ acc x d, g d (mk acc x) = .ok (mk acc (some d))) (hb : ∀ acc d, acc.length < 100000 → b (mk acc (some d)) = .ok (.nx (mk (acc ++ [F d]) (some d)))) :
    ∀ (ds : List D) (acc : List D) (x : Option D), acc.length + ds.length ≤ 100000 → ∃ x', forGo g b ds (mk acc x) = .ok (.nx (mk (acc ++ ds.map F) x'))
  | [], acc, x, _ => ⟨x, by simp [for_nil]⟩
  | d :: ds, acc, x, h => by
    simp only [List.length_cons] at h
    obtain ⟨x', e⟩ := app_loop hg hb ds (acc ++ [F d]) (some d) (by simp; omega)
    refine ⟨x', ?_⟩
    rw [for_cons (hg acc x d) (hb acc d (by omega)), e]
    simp
theorem cut_take {α : Type} (f : α → D) (xs : List α) : cutL (xs.map f) none (some 3) = (xs.take 3).map f := by
  unfold cutL sIxV
  simp only [show ¬ ((3 : Int) < 0) by decide, if_false, Nat.sub_zero, List.drop_zero]
  rw [← List.map_take]
  congr 1
  by_cases h : xs.length ≤ 3
  · rw [List.length_map, Nat.min_eq_right (by simpa using h), List.take_of_length_le (by simp), List.take_of_length_le h]
  · rw [List.length_map, Nat.min_eq_left (by simp; omega)]
    rfl
theorem fit_ln {n : Int} {x : Ln} (hn : n ≤ 8) (h : okLn n x = true) : fitL x := by
  simp only [okLn, Bool.and_eq_true, decide_eq_true_eq] at h
  unfold fitL
  omega
theorem fit_sn {n : Int} {x : Sn} (hn : n ≤ 8) (h : okSn n x = true) : fitS x := by
  simp only [okSn, Bool.and_eq_true, decide_eq_true_eq] at h
  unfold fitS
  omega
theorem fit_ld {n : Int} {x : Ld} (hn : n ≤ 8) (h : okLd n x = true) : fitD x := by
  simp only [okLd, Bool.and_eq_true, decide_eq_true_eq] at h
  unfold fitD
  omega
theorem app_loopT {α : Type} {enc : α → D} {Fn : α → Net} {g : GF} {b : SF} {mk : List Net → Option D → VEnv} (hg : ∀ acc x y, g (enc y) (mk acc x) = .ok (mk acc (some (enc y)))) (hb : ∀ acc y, acc.length < 100000 → b (mk acc (some (enc y))) = .ok (.nx (mk (acc ++ [Fn y]) (some (enc y))))) :
    ∀ (xs : List α) (acc : List Net) (x : Option D), acc.length + xs.length ≤ 100000 → ∃ x', forGo g b (xs.map enc) (mk acc x) = .ok (.nx (mk (acc ++ xs.map Fn) x'))
  | [], acc, x, _ => ⟨x, by simp [for_nil]⟩
  | y :: ys, acc, x, h => by
    simp only [List.length_cons] at h
    obtain ⟨x', e⟩ := app_loopT hg hb ys (acc ++ [Fn y]) (some (enc y)) (by simp; omega)
    refine ⟨x', ?_⟩
    rw [List.map_cons, for_cons (hg acc x y) (hb acc y (by omega)), e]
    simp
theorem flat_one {α : Type} (x : α) : ∀ k : Nat, (List.replicate k [x]).flatten = List.replicate k x
  | 0 => rfl
  | k + 1 => by simp [List.replicate_succ, flat_one x k]
theorem rep_one (x : D) (k : Nat) (h : k ≤ 1000) : repD (.list [x]) (.int (k : Int)) = .ok (.list (List.replicate k x)) := by
  have c : -(2 ^ 63) ≤ (k : Int) ∧ (k : Int) < 2 ^ 63 ∧ [x].length * ((k : Int)).toNat ≤ big := by
    rw [big_val]
    simp only [List.length_singleton, Int.toNat_natCast]
    omega
  simp only [repD]
  rw [if_pos c, Int.toNat_natCast, flat_one]
theorem st_for {i : AF} {g : GF} {b k : SF} {ρ ρ' : VEnv} {ds : List D} {r : R Out} (hi : i ρ = .ok ds) (hl : ds.length ≤ 100000) (h : forGo g b ds ρ = .ok (.nx ρ')) (z : k ρ' = r) : sSeq (sFor i g b) k ρ = r := st_nx (by rw [for_go hi hl]; exact h) z
theorem e2_ev {f : D → D → R D} {a b : EF} {ρ : VEnv} {x y : D} (ha : a ρ = .ok x) (hb : b ρ = .ok y) : (e2 f a b) ρ = f x y := by
  show (a ρ).bind _ = _
  rw [ha]
  show (b ρ).bind _ = _
  rw [hb]
  rfl
theorem an_t {a b : EF} {ρ : VEnv} (h : a ρ = .ok (.bool true)) : (eAn a b) ρ = b ρ := by
  show (a ρ).bind _ = _
  rw [h]
  rfl
theorem cat_nets (bad : List Net) (A B C : Net) (h : bad.length ≤ 1000) : catD (.list (bad.map netD)) (.list [netD A, netD B, netD C]) = .ok (.list ((bad ++ [A, B, C]).map netD)) := by
  have e : catD (.list (bad.map netD)) (.list [netD A, netD B, netD C]) = if (bad.map netD).length + [netD A, netD B, netD C].length ≤ big then R.ok (PyData.list (bad.map netD ++ [netD A, netD B, netD C])) else .no := rfl
  have c : (bad.map netD).length + [netD A, netD B, netD C].length ≤ big := by
    rw [List.length_map, big_val, List.length_cons, List.length_cons, List.length_cons, List.length_nil]
    omega
  rw [e, if_pos c, List.map_append]
  rfl
theorem lst3 {a b c : EF} {ρ : VEnv} {x y z : D} (ha : a ρ = .ok x) (hb : b ρ = .ok y) (hc : c ρ = .ok z) : (eLst (aC a (aC b (aC c aN)))) ρ = .ok (.list [x, y, z]) := by
  simp only [eLst, aC, aN, ha, hb, hc, R.bind]
  exact if_pos (by rw [big_val]; simp)
theorem tup4 {a b c d : EF} {ρ : VEnv} {x y z w : D} (ha : a ρ = .ok x) (hb : b ρ = .ok y) (hc : c ρ = .ok z) (hd : d ρ = .ok w) : (eTup (aC a (aC b (aC c (aC d aN))))) ρ = .ok (.tuple [x, y, z, w]) := by
  simp only [eTup, aC, aN, ha, hb, hc, hd, R.bind]
  exact if_pos (by rw [big_val]; simp)
theorem eF1 {f : List D → R D} {a : EF} {ρ : VEnv} {x y : D} (ha : a ρ = .ok x) (h : f [x] = .ok y) : (eF f (aC a aN)) ρ = .ok y := by
  show (((a ρ).bind fun x => (aN ρ).bind fun xs => R.ok (x :: xs))).bind f = _
  rw [ha]
  exact h
theorem nn_ev {e : EF} {ρ : VEnv} (h : e ρ = .ok .none) : (e2 isNoneD e (eC .none)) ρ = .ok (.bool true) := by
  show (e ρ).bind _ = _
  rw [h]
  rfl
theorem ret_and3 {a b c : EF} {ρ : VEnv} (ha : a ρ = .ok .none) (hb : b ρ = .ok .none) (hc : c ρ = .ok .none) : sRet (eAn (e2 isNoneD a (eC .none)) (eAn (e2 isNoneD b (eC .none)) (e2 isNoneD c (eC .none)))) ρ = .ok (.rt (.bool true)) := by
  show ((eAn _ _) _).bind _ = _
  rw [an_t (nn_ev ha), an_t (nn_ev hb), nn_ev hc]
  rfl

/-! ### comprehensions, tests -/
theorem rangeD_nat (n : Nat) : rangeD 0 (n : Int) = (List.range n).map fun k => .int (k : Int) := by simp [rangeD]
theorem lc_map {α : Type} {enc : α → D} {g : GF} {t : TF} {e : EF} {ρ : VEnv} (p : α → Bool) (f : α → D) : ∀ (xs : List α), (∀ x ∈ xs, ∃ ρk, g (enc x) ρ = .ok ρk ∧ t ρk = .ok (p x) ∧ (p x = true → e ρk = .ok (f x))) → lcGo g t e ρ (xs.map enc) = .ok ((xs.filter p).map f)
  | [], _ => rfl
  | x :: xs, h => by
    obtain ⟨ρk, h1, h2, h3⟩ := h x List.mem_cons_self
    have ih := lc_map p f xs fun y hy => h y (List.mem_cons_of_mem _ hy)
    show ((g (enc x) ρ).bind fun ρ' => (t ρ').bind fun c => match c with
      | true => (e ρ').bind fun x => (lcGo g t e ρ (xs.map enc)).bind fun ys => R.ok (x :: ys)
      | false => lcGo g t e ρ (xs.map enc)) = _
    rw [h1]
    show ((t ρk).bind _) = _
    rw [h2]
    cases q : p x with
    | true =>
      show ((e ρk).bind _) = _
      rw [h3 q]
      show ((lcGo g t e ρ (xs.map enc)).bind _) = _
      rw [ih]
      simp [R.bind, q]
    | false =>
      show lcGo g t e ρ (xs.map enc) = _
      rw [ih]
      simp [q]
theorem lc_ev {α : Type} {enc : α → D} {i : AF} {g : GF} {t : TF} {e : EF} {vs : List Nat} {ρ : VEnv} {xs : List α} (p : α → Bool) (f : α → D) (hi : i ρ = .ok (xs.map enc)) (hl : xs.length ≤ 100000)
    (h : ∀ x ∈ xs, ∃ ρk, g (enc x) (wipeE ρ vs) = .ok ρk ∧ t ρk = .ok (p x) ∧ (p x = true → e ρk = .ok (f x))) : (eLc i g t e vs) ρ = .ok (.list ((xs.filter p).map f)) := by
  show ((i ρ).bind fun ds => if ds.length ≤ big then (noX (lcGo g t e (wipeE ρ vs) ds)).bind fun xs => R.ok (PyData.list xs) else .no) = _
  rw [hi]
  show (if (xs.map enc).length ≤ big then (noX (lcGo g t e (wipeE ρ vs) (xs.map enc))).bind fun xs => R.ok (PyData.list xs) else .no) = _
  rw [if_pos (by rw [List.length_map, big_val]; exact hl), lc_map p f xs h]
  rfl
theorem e1_ev {f : D → R D} {a : EF} {ρ : VEnv} {x : D} (ha : a ρ = .ok x) : (e1 f a) ρ = f x := by
  show (a ρ).bind _ = _
  rw [ha]
  rfl
theorem eF2 {f : List D → R D} {a b : EF} {ρ : VEnv} {x y z : D} (ha : a ρ = .ok x) (hb : b ρ = .ok y) (h : f [x, y] = .ok z) : (eF f (aC a (aC b aN))) ρ = .ok z := by
  simp only [eF, aC, aN, ha, hb, R.bind]
  exact h
theorem eF3 {f : List D → R D} {a b c : EF} {ρ : VEnv} {x y w z : D} (ha : a ρ = .ok x) (hb : b ρ = .ok y) (hc : c ρ = .ok w) (h : f [x, y, w] = .ok z) : (eF f (aC a (aC b (aC c aN)))) ρ = .ok z := by
  simp only [eF, aC, aN, ha, hb, hc, R.bind]
  exact h
theorem lst2 {a b : EF} {ρ : VEnv} {x y : D} (ha : a ρ = .ok x) (hb : b ρ = .ok y) : (eLst (aC a (aC b aN))) ρ = .ok (.list [x, y]) := by
  simp only [eLst, aC, aN, ha, hb, R.bind]
  exact if_pos (by rw [big_val]; simp)
theorem tup3 {a b c : EF} {ρ : VEnv} {x y z : D} (ha : a ρ = .ok x) (hb : b ρ = .ok y) (hc : c ρ = .ok z) : (eTup (aC a (aC b (aC c aN)))) ρ = .ok (.tuple [x, y, z]) := by
  simp only [eTup, aC, aN, ha, hb, hc, R.bind]
  exact if_pos (by rw [big_val]; simp)
theorem cat_ok {xs ys : List D} (h : xs.length + ys.length ≤ 100000) : catD (.list xs) (.list ys) = .ok (.list (xs ++ ys)) := if_pos (by rw [big_val]; exact h)
theorem ok_do {e : EF} {ρ : VEnv} {d : D} (h : e ρ = .ok d) : sDo e ρ = .ok (.nx ρ) := by
  show (e ρ).bind _ = _
  rw [h]
  rfl
theorem ex_do {e : EF} {ρ : VEnv} {c : Nat} (h : e ρ = .ex c) : sDo e ρ = .ex c := by
  show (e ρ).bind _ = _
  rw [h]
  rfl
theorem tB_ev {e : EF} {ρ : VEnv} {b : Bool} (h : e ρ = .ok (.bool b)) : tB e ρ = .ok b := by
  show (e ρ).bind _ = _
  rw [h]
  rfl
theorem tOr_f {a b : TF} {ρ : VEnv} (h : a ρ = .ok false) : tOr a b ρ = b ρ := by
  show (a ρ).bind _ = _
  rw [h]
  rfl
theorem tOr_t {a b : TF} {ρ : VEnv} (h : a ρ = .ok true) : tOr a b ρ = .ok true := by
  show (a ρ).bind _ = _
  rw [h]
  rfl
theorem tAn_t {a b : TF} {ρ : VEnv} (h : a ρ = .ok true) : tAn a b ρ = b ρ := by
  show (a ρ).bind _ = _
  rw [h]
  rfl
theorem tAn_f {a b : TF} {ρ : VEnv} (h : a ρ = .ok false) : tAn a b ρ = .ok false := by
  show (a ρ).bind _ = _
  rw [h]
  rfl
theorem tNo_ev {a : TF} {ρ : VEnv} {b : Bool} (h : a ρ = .ok b) : tNo a ρ = .ok (!b) := by
  show (a ρ).bind _ = _
  rw [h]
  rfl
theorem ret_ev {e : EF} {ρ : VEnv} {d : D} (h : e ρ = .ok d) : sRet e ρ = .ok (.rt d) := by
  show (e ρ).bind _ = _
  rw [h]
  rfl
end Lw

set_option Elab.async false
set_option linter.all false
set_option maxRecDepth 100000
set_option maxHeartbeats 8000000
/-! PS: states that the laws draw. -/
namespace Lw
open PySem Vx
def tupI (xs : List Int) : D := .tuple (xs.map .int)
structure Sta where
  c : List Int
  r : List Int
  f : List Int
def stD (s : Sta) : D := .tuple [tupI s.c, tupI s.r, tupI s.f]
/-- ascending, above lo, below n -/
def okI (n : Int) : Int → List Int → Bool
  | _, [] => true
  | lo, x :: r => decide (lo < x) && decide (x < n) && okI n x r
def okS (N : Net) (s : Sta) : Bool := okI N.ls.length (-1) s.c && okI N.ss.length (-1) s.r && okI N.ds.length (-1) s.f
theorem okI_lt {n : Int} : ∀ {lo : Int} {xs : List Int}, okI n lo xs = true → ∀ x ∈ xs, lo < x ∧ x < n
  | _, [], _, x, hx => by simp at hx
  | lo, y :: r, h, x, hx => by
    simp only [okI, Bool.and_eq_true, decide_eq_true_eq] at h
    rcases List.mem_cons.mp hx with rfl | hx
    · exact h.1
    · have := okI_lt h.2 x hx
      omega
theorem okI_len {n : Int} : ∀ {lo : Int} {xs : List Int}, okI n lo xs = true → (xs.length : Int) ≤ max 0 (n - 1 - lo)
  | lo, [], _ => by simp; omega
  | lo, y :: r, h => by
    simp only [okI, Bool.and_eq_true, decide_eq_true_eq] at h
    have := okI_len h.2
    simp only [List.length_cons]
    omega
theorem okI_range (n : Nat) (p : Nat → Bool) : okI n (-1) (((List.range n).filter p).map fun k : Nat => (k : Int)) = true := by
  have gen : ∀ (m : Nat) (lo : Int) (a : Nat), lo < (a : Int) → a + m = n → okI n lo (((List.range' a m).filter p).map fun k : Nat => (k : Int)) = true := by
    intro m
    induction m with
    | zero => intro lo a _ _; rfl
    | succ m ih =>
      intro lo a h e
      rw [List.range'_succ, List.filter_cons]
      cases q : p a with
      | true =>
        simp only [if_true, List.map_cons, okI, Bool.and_eq_true, decide_eq_true_eq]
        exact ⟨⟨h, by omega⟩, ih (a : Int) (a + 1) (by omega) (by omega)⟩
      | false =>
        simp only [Bool.false_eq_true, if_false]
        exact ih lo (a + 1) (by omega) (by omega)
  rw [List.range_eq_range']
  exact gen n (-1) 0 (by omega) (by omega)
theorem iRg1_ev {e : EF} {ρ : VEnv} {n : Nat} (he : e ρ = .ok (.int (n : Int))) (h : n ≤ 1000) : (iRg1 (aC e aN)) ρ = .ok ((List.range n).map fun k : Nat => .int (k : Int)) := by
  have c : -(2 ^ 62) ≤ (n : Int) ∧ (n : Int) < 2 ^ 62 := by omega
  have hr : rng1 [.int (n : Int)] = .ok (rangeD 0 (n : Int)) := by
    simp only [rng1]
    rw [if_pos c]
  simp only [iRg1, aC, aN, he, R.bind, hr, rangeD_nat]
/-- what _law_some draws -/
theorem some_ex (cell : Int) (n : Nat) (often : Int) (h : n ≤ 1000) : ∃ xs, f_law_some [.int cell, .int (n : Int), .int often] = .ok (tupI xs) ∧ okI n (-1) xs = true := by
  obtain ⟨vs, eD, b⟩ := draws_ex cell (List.replicate n 5) (by intro l hl; rw [List.eq_of_mem_replicate hl]; omega) (by rw [big_val]; simp; omega)
  have vl : vs.length = n := by have := b.len; simpa using this
  refine ⟨((List.range n).filter fun k => decide ((vs.getD k 0) < often)).map fun k : Nat => (k : Int), ?_, okI_range n _⟩
  apply fn_rt
  show b_law_some [some (.int cell), some (.int (n : Int)), some (.int often), none, none] = _
  unfold b_law_some
  refine st_set (d := .list (vs.map .int)) ?_ ?_
  · refine eF2 (x := .int cell) (y := .list ((List.replicate n (5 : Int)).map .int)) rfl ?_ eD
    refine (e2_ev (x := .list [.int 5]) (y := .int (n : Int)) rfl rfl).trans ?_
    rw [rep_one _ _ h, List.map_replicate]
  · refine ret_ev (eF1 (x := .list (((List.range n).filter fun k => decide ((vs.getD k 0) < often)).map fun k : Nat => .int (k : Int))) ?_ (by rw [tupI, List.map_map]; rfl))
    refine lc_ev (enc := fun k : Nat => .int (k : Int)) (fun k : Nat => decide ((vs.getD k 0) < often)) (fun k : Nat => .int (k : Int)) (iRg1_ev (ρ := [some (.int cell), some (.int (n : Int)), some (.int often), some (.list (vs.map .int)), none]) rfl h) (by rw [List.length_range]; omega) fun k hk => ?_
    have hk' : k < vs.length := by rw [vl]; simpa using hk
    refine ⟨_, rfl, ?_, fun _ => rfl⟩
    refine tB_ev ((e2_ev (x := .int vs[k]) (y := .int often) ?_ rfl).trans ?_)
    · exact (e2_ev (x := .list (vs.map .int)) (y := .int (k : Int)) rfl rfl).trans (item_ints hk')
    · rw [List.getD_eq_getElem?_getD, List.getElem?_eq_getElem hk']
      rfl
theorem state_ex (cell : Int) (N : Net) (h : Fit N) : ∃ s : Sta, f_law_state [.int cell, netD N] = .ok (stD s) ∧ okS N s = true := by
  obtain ⟨vs, eD, b⟩ := draws_ex cell [1000000, 1000000, 1000000, 4] (by intro l hl; simp at hl; omega) (by rw [big_val]; simp)
  rcases b with _ | ⟨a0, b0, b⟩; rcases b with _ | ⟨a1, b1, b⟩; rcases b with _ | ⟨a2, b2, b⟩; rcases b with _ | ⟨a3, b3, b⟩; rcases b
  rename_i v0 v1 v2 v3
  obtain ⟨q, hq⟩ := Int.eq_ofNat_of_zero_le a3
  have hq4 : q < 4 := by omega
  obtain ⟨of, e4⟩ : ∃ of : Int, itemAt [PyData.int 4, .int 3, .int 4, .int 2] (q : Int) = .ok (.int of) := by
    have : q = 0 ∨ q = 1 ∨ q = 2 ∨ q = 3 := by omega
    rcases this with rfl | rfl | rfl | rfl
    · exact ⟨4, rfl⟩
    · exact ⟨3, rfl⟩
    · exact ⟨4, rfl⟩
    · exact ⟨2, rfl⟩
  obtain ⟨xs, e0, k0⟩ := some_ex v0 N.ls.length of h.l1
  obtain ⟨ys, e1, k1⟩ := some_ex v1 N.ss.length of h.l2
  obtain ⟨zs, e2, k2⟩ := some_ex v2 N.ds.length 2 h.l3
  refine ⟨⟨xs, ys, zs⟩, ?_, by simp [okS, k0, k1, k2]⟩
  apply fn_rt
  show b_law_state [some (.int cell), some (netD N), none, none] = _
  unfold b_law_state
  refine st_set (d := .list ([v0, v1, v2, v3].map .int)) ?_ ?_
  · refine eF2 (x := .int cell) (y := .list (([1000000, 1000000, 1000000, 4] : List Int).map .int)) rfl ?_ eD
    rfl
  · have m : ∀ (ρ : VEnv) (k : Nat) (v : Int), look ρ 2 = .ok (.list ([v0, v1, v2, v3].map .int)) → itemAt ([v0, v1, v2, v3].map .int) (k : Int) = .ok (.int v) → (Vx.e2 ixD (eV 2) (eC (.int (k : Int)))) ρ = .ok (.int v) := fun ρ k v z y =>
      (e2_ev (x := .list ([v0, v1, v2, v3].map .int)) (y := .int (k : Int)) z rfl).trans y
    have n : ∀ (ρ : VEnv) (k : Nat) (xs : List D), look ρ 1 = .ok (netD N) → ixD (netD N) (.int (k : Int)) = .ok (.list xs) → (eF fLen (aC (Vx.e2 ixD (eV 1) (eC (.int (k : Int)))) aN)) ρ = .ok (.int (xs.length : Int)) := fun ρ k xs z y =>
      eF1 ((e2_ev (x := netD N) (y := .int (k : Int)) z rfl).trans y) (len_list _)
    refine st_set (d := .int of) ?_ ?_
    · exact (e2_ev (x := .list [.int 4, .int 3, .int 4, .int 2]) (y := .int (q : Int)) rfl (by rw [← hq]; exact m _ 3 v3 rfl rfl)).trans e4
    · refine ret_ev (tup3 ?_ ?_ ?_)
      · exact eF3 (m _ 0 v0 rfl rfl) (by have := n [some (.int cell), some (netD N), some (.list ([v0, v1, v2, v3].map .int)), some (.int of)] 1 (N.ls.map lnD) rfl rfl; rw [List.length_map] at this; exact this) (rfl : (eV 3) _ = .ok (.int of)) e0
      · exact eF3 (m _ 1 v1 rfl rfl) (by have := n [some (.int cell), some (netD N), some (.list ([v0, v1, v2, v3].map .int)), some (.int of)] 2 (N.ss.map snD) rfl rfl; rw [List.length_map] at this; exact this) (rfl : (eV 3) _ = .ok (.int of)) e1
      · exact eF3 (m _ 2 v2 rfl rfl) (by have := n [some (.int cell), some (netD N), some (.list ([v0, v1, v2, v3].map .int)), some (.int of)] 3 (N.ds.map ldD) rfl rfl; rw [List.length_map] at this; exact this) (rfl : (eC (.int 2)) _ = .ok (.int 2)) e2
end Lw

set_option Elab.async false
set_option linter.all false
set_option maxRecDepth 100000
set_option maxHeartbeats 8000000
/-! PX of k02: the plain law. -/
namespace Lw
open PySem Vx

/-! ### check_state -/
def ciB : SF := (sIf (tOr (tNo (tB (eCh (eC (.int 0)) (cLink leD (eV 3) (cLast ltD (eV 1)))))) (tAn (tB (e2 gtD (eV 2) (eC (.int 0)))) (tB (e2 geD (e2 ixD (eV 0) (e2 subD (eV 2) (eC (.int 1)))) (eV 3)))))
      (sRai 2)
      sNop)
theorem ci_turn (xs : List Int) (n : Int) (j : Nat) (x prev : Int) (y2 y3 : Option D) (h : (j = 0 ∧ prev = -1) ∨ (0 < j ∧ 0 ≤ prev ∧ xs[j - 1]? = some prev)) :
    ciB [some (tupI xs), some (.int n), some (.int (j : Int)), some (.int x)] = if prev < x ∧ x < n then .ok (.nx [some (tupI xs), some (.int n), some (.int (j : Int)), some (.int x)]) else .ex 2 := by
  let ρ : VEnv := [some (tupI xs), some (.int n), some (.int (j : Int)), some (.int x)]
  have t1 : tNo (tB (eCh (eC (.int 0)) (cLink leD (eV 3) (cLast ltD (eV 1))))) ρ = .ok (!(decide (0 ≤ x) && decide (x < n))) := by
    refine tNo_ev (tB_ev ?_)
    by_cases q : 0 ≤ x
    · simp [eCh, cLink, cLast, eC, eV, look, R.bind, leD, ltD, intD2, asB, q, ρ]
    · simp [eCh, cLink, cLast, eC, eV, look, R.bind, leD, ltD, intD2, asB, q, ρ]
  have t2 : tB (e2 gtD (eV 2) (eC (.int 0))) ρ = .ok (decide (0 < (j : Int))) := rfl
  by_cases z : 0 ≤ x ∧ x < n
  · rw [decide_eq_true z.1, decide_eq_true z.2] at t1
    rcases h with ⟨rfl, rfl⟩ | ⟨h1, h2, h3⟩
    · rw [if_pos ⟨by omega, z.2⟩]
      exact (if_f ((tOr_f t1).trans (tAn_f t2))).trans rfl
    · have t2' : tB (e2 gtD (eV 2) (eC (.int 0))) ρ = .ok true := by rw [t2, decide_eq_true (by omega)]
      have hj : j - 1 < xs.length := (List.getElem?_eq_some_iff.mp h3).1
      have hv : xs[j - 1] = prev := (List.getElem?_eq_some_iff.mp h3).2
      have t3 : tB (e2 geD (e2 ixD (eV 0) (e2 subD (eV 2) (eC (.int 1)))) (eV 3)) ρ = .ok (decide (x ≤ prev)) := by
        refine tB_ev ((e2_ev (x := .int prev) (y := .int x) ?_ rfl).trans rfl)
        refine (e2_ev (x := tupI xs) (y := .int ((j : Int) - 1)) rfl rfl).trans ?_
        have e : ((j : Int) - 1) = ((j - 1 : Nat) : Int) := by omega
        rw [e]
        show itemAt (xs.map .int) _ = _
        rw [item_ints hj, hv]
      by_cases w : prev < x
      · rw [decide_eq_false (by omega)] at t3
        rw [if_pos ⟨w, z.2⟩]
        exact (if_f ((tOr_f t1).trans ((tAn_t t2').trans t3))).trans rfl
      · rw [decide_eq_true (by omega)] at t3
        rw [if_neg (by omega)]
        exact (if_t ((tOr_f t1).trans ((tAn_t t2').trans t3))).trans rfl
  · have t1' : tNo (tB (eCh (eC (.int 0)) (cLink leD (eV 3) (cLast ltD (eV 1))))) ρ = .ok true := by
      rw [t1]
      by_cases q : 0 ≤ x
      · rw [decide_eq_true q, decide_eq_false (by omega)]; rfl
      · rw [decide_eq_false q]; rfl
    rw [if_neg (by omega)]
    exact (if_t (tOr_t t1')).trans rfl
theorem ci_loop (xs : List Int) (n : Int) : ∀ (rest : List Int) (j : Nat) (prev : Int) (y2 y3 : Option D), xs.drop j = rest → ((j = 0 ∧ prev = -1) ∨ (0 < j ∧ 0 ≤ prev ∧ xs[j - 1]? = some prev)) →
    (okI n prev rest = true → ∃ ρ', forGo (gT 2 (gsC (gN 2) (gsC (gN 3) gsN))) ciB (enumD j (rest.map .int)) [some (tupI xs), some (.int n), y2, y3] = .ok (.nx ρ')) ∧
    (okI n prev rest = false → forGo (gT 2 (gsC (gN 2) (gsC (gN 3) gsN))) ciB (enumD j (rest.map .int)) [some (tupI xs), some (.int n), y2, y3] = .ex 2)
  | [], j, prev, y2, y3, e, h => ⟨fun _ => ⟨_, rfl⟩, fun z => by simp [okI] at z⟩
  | x :: r, j, prev, y2, y3, e, h => by
    have ct := ci_turn xs n j x prev y2 y3 h
    have hx : xs[j]? = some x := by
      have := List.getElem?_drop (xs := xs) (i := j) (j := 0)
      rw [e] at this
      simpa using this.symm
    have er : xs.drop (j + 1) = r := by rw [← List.drop_drop, e]; rfl
    by_cases z : prev < x ∧ x < n
    · rw [if_pos z] at ct
      have nxt : (j + 1 = 0 ∧ x = -1) ∨ (0 < j + 1 ∧ 0 ≤ x ∧ xs[j + 1 - 1]? = some x) := .inr ⟨by omega, by omega, by simpa using hx⟩
      obtain ⟨i1, i2⟩ := ci_loop xs n r (j + 1) x (some (.int (j : Int))) (some (.int x)) er nxt
      have st : forGo (gT 2 (gsC (gN 2) (gsC (gN 3) gsN))) ciB (enumD j ((x :: r).map .int)) [some (tupI xs), some (.int n), y2, y3] = forGo (gT 2 (gsC (gN 2) (gsC (gN 3) gsN))) ciB (enumD (j + 1) (r.map .int)) [some (tupI xs), some (.int n), some (.int (j : Int)), some (.int x)] :=
        for_cons (g := gT 2 (gsC (gN 2) (gsC (gN 3) gsN))) (b := ciB) (ρ := [some (tupI xs), some (.int n), y2, y3]) (d := .tuple [.int (j : Int), .int x]) (ds := enumD (j + 1) (r.map .int)) rfl ct
      refine ⟨fun w => ?_, fun w => ?_⟩
      · rw [st]
        simp only [okI, z.1, z.2, decide_true, Bool.true_and] at w
        exact i1 w
      · rw [st]
        simp only [okI, z.1, z.2, decide_true, Bool.true_and] at w
        exact i2 w
    · rw [if_neg z] at ct
      refine ⟨fun w => ?_, fun w => ?_⟩
      · simp only [okI, Bool.and_eq_true, decide_eq_true_eq] at w
        exact absurd ⟨w.1.1, w.1.2⟩ z
      · exact for_ex (g := gT 2 (gsC (gN 2) (gsC (gN 3) gsN))) (b := ciB) (ρ := [some (tupI xs), some (.int n), y2, y3]) (d := .tuple [.int (j : Int), .int x]) (ds := enumD (j + 1) (r.map .int)) rfl ct
theorem enumD_length : ∀ (j : Nat) (ds : List D), (enumD j ds).length = ds.length
  | _, [] => rfl
  | j, d :: ds => by simp [enumD, enumD_length (j + 1) ds]
theorem ci_eq (xs : List Int) (n : Int) (h : xs.length ≤ 1000) : f_check_indexes [tupI xs, .int n] = if okI n (-1) xs then .ok .none else .ex 2 := by
  obtain ⟨i1, i2⟩ := ci_loop xs n xs 0 (-1) none none rfl (.inl ⟨rfl, rfl⟩)
  have go : b_check_indexes [some (tupI xs), some (.int n), none, none] = forGo (gT 2 (gsC (gN 2) (gsC (gN 3) gsN))) ciB (enumD 0 (xs.map .int)) [some (tupI xs), some (.int n), none, none] :=
    for_go rfl (by rw [enumD_length, List.length_map, big_val]; omega)
  cases q : okI n (-1) xs with
  | true =>
    obtain ⟨ρ', e⟩ := i1 q
    exact fn_nx (go.trans e)
  | false => exact fn_ex (go.trans (i2 q))
theorem cs_eq (N : Net) (s : Sta) (h : Fit N) (h1 : s.c.length ≤ 1000) (h2 : s.r.length ≤ 1000) (h3 : s.f.length ≤ 1000) : f_check_state [netD N, stD s] = if okS N s then .ok .none else .ex 2 := by
  have n : ∀ (ρ : VEnv) (k : Nat) (xs : List D), look ρ 0 = .ok (netD N) → ixD (netD N) (.int (k : Int)) = .ok (.list xs) → (eF fLen (aC (Vx.e2 ixD (eV 0) (eC (.int (k : Int)))) aN)) ρ = .ok (.int (xs.length : Int)) := fun ρ k xs z y =>
    eF1 ((e2_ev (x := netD N) (y := .int (k : Int)) z rfl).trans y) (len_list _)
  let ρ : VEnv := [some (netD N), some (stD s), some (tupI s.c), some (tupI s.r), some (tupI s.f)]
  have l1 := n ρ 1 (N.ls.map lnD) rfl rfl
  have l2 := n ρ 2 (N.ss.map snD) rfl rfl
  have l3 := n ρ 3 (N.ds.map ldD) rfl rfl
  rw [List.length_map] at l1 l2 l3
  have c1 := ci_eq s.c N.ls.length h1
  have c2 := ci_eq s.r N.ss.length h2
  have c3 := ci_eq s.f N.ds.length h3
  have go : b_check_state [some (netD N), some (stD s), none, none, none] = sSeq (sDo (eF f_check_indexes (aC (eV 2) (aC (eF fLen (aC (e2 ixD (eV 0) (eC (.int 1))) aN)) aN))))
    (sSeq (sDo (eF f_check_indexes (aC (eV 3) (aC (eF fLen (aC (e2 ixD (eV 0) (eC (.int 2))) aN)) aN))))
    (sDo (eF f_check_indexes (aC (eV 4) (aC (eF fLen (aC (e2 ixD (eV 0) (eC (.int 3))) aN)) aN))))) ρ := st_nx rfl rfl
  have cal : ∀ (i : Nat) (e : EF) (x y : D) (r : R D), look ρ i = .ok x → e ρ = .ok y → f_check_indexes [x, y] = r → (eF f_check_indexes (aC (eV i) (aC e aN))) ρ = r := fun i e x y r z1 z2 z3 => by
    have : (eV i) ρ = .ok x := z1
    simp only [eF, aC, aN, this, z2, R.bind]
    exact z3
  cases q1 : okI N.ls.length (-1) s.c with
  | false =>
    rw [q1] at c1
    refine (fn_ex (go.trans (seq_ex (ex_do (cal 2 _ _ _ _ rfl l1 c1))))).trans ?_
    simp [okS, q1]
  | true =>
    rw [q1] at c1
    have go2 := go.trans (seq_nx (ok_do (cal 2 _ _ _ _ rfl l1 c1)))
    cases q2 : okI N.ss.length (-1) s.r with
    | false =>
      rw [q2] at c2
      refine (fn_ex (go2.trans (seq_ex (ex_do (cal 3 _ _ _ _ rfl l2 c2))))).trans ?_
      simp [okS, q2]
    | true =>
      rw [q2] at c2
      have go3 := go2.trans (seq_nx (ok_do (cal 3 _ _ _ _ rfl l2 c2)))
      cases q3 : okI N.ds.length (-1) s.f with
      | false =>
        rw [q3] at c3
        refine (fn_ex (go3.trans (ex_do (cal 4 _ _ _ _ rfl l3 c3)))).trans ?_
        simp [okS, q3]
      | true =>
        rw [q3] at c3
        refine (fn_nx (go3.trans (ok_do (cal 4 _ _ _ _ rfl l3 c3)))).trans ?_
        simp [okS, q1, q2, q3]
theorem full_eq (N : Net) (s : Sta) : f_is_full [netD N, stD s] = .ok (.bool ((s.f.length : Int) == (N.ds.length : Int))) := by
  apply fn_rt
  show b_is_full [some (netD N), some (stD s)] = _
  refine ret_ev ((e2_ev (x := .int (s.f.length : Int)) (y := .int (N.ds.length : Int)) ?_ ?_).trans (eq_int _ _))
  · refine eF1 (x := tupI s.f) rfl ?_
    show R.ok (PyData.int ((s.f.map PyData.int).length : Int)) = _
    rw [List.length_map]
  · refine eF1 (x := .list (N.ds.map ldD)) rfl ?_
    rw [len_list, List.length_map]

/-! ### refused -/
structure FitS (s : Sta) : Prop where
  c : (∀ x ∈ s.c, x.natAbs < 2 ^ 60) ∧ s.c.length ≤ 1000
  r : (∀ x ∈ s.r, x.natAbs < 2 ^ 60) ∧ s.r.length ≤ 1000
  f : (∀ x ∈ s.f, x.natAbs < 2 ^ 60) ∧ s.f.length ≤ 1000
def nsD (N : Net) (s : Sta) : D := .list [netD N, stD s]
theorem tup_shok {xs : List Int} (h : ∀ x ∈ xs, x.natAbs < 2 ^ 60) : shOk (tupI xs) = true := by
  show shOkA (xs.map PyData.int) = true
  exact map_shok fun x hx => by simp only [shOk, decide_eq_true_eq]; exact h x hx
theorem tup_shw (xs : List Int) : shW (tupI xs) ≤ xs.length + 1 := by
  show shWA (xs.map PyData.int) + 1 ≤ _
  have := map_shw (f := PyData.int) (l := xs) (c := 1) (fun x => by simp [shW])
  omega
theorem tup_depth (xs : List Int) : (tupI xs).depth ≤ 1 := by
  show PyData.depthAll (xs.map PyData.int) + 1 ≤ 1
  have := map_depth (f := PyData.int) (l := xs) (c := 0) (fun x => by simp [PyData.depth])
  omega
theorem repr_ns {N : Net} {s : Sta} (h : Fit N) (k : FitS s) : fRepr [nsD N s] = .ok (.str (nsD N s).shown) := by
  apply repr_eq
  · simp only [nsD, stD, shOk, shOkA, Bool.and_true, Bool.and_eq_true]
    exact ⟨fit_shok h, tup_shok k.c.1, tup_shok k.r.1, tup_shok k.f.1⟩
  · have a := net_depth N
    have b1 := tup_depth s.c
    have b2 := tup_depth s.r
    have b3 := tup_depth s.f
    simp only [nsD, stD, PyData.depth, PyData.depthAll]
    omega
  · have a := net_shw h
    have b1 := tup_shw s.c
    have b2 := tup_shw s.r
    have b3 := tup_shw s.f
    have := k.c.2
    have := k.r.2
    have := k.f.2
    simp only [nsD, stD, shW, shWA]
    omega
  · rfl
theorem ref_eq {N : Net} {s : Sta} (h : Fit N) (k : FitS s) (no : okS N s = false) : f_law_refused [netD N, stD s] = .ok (.bool true) := by
  have r := repr_ns h k
  have c : f_check_state [netD N, stD s] = .ex 2 := by
    rw [cs_eq N s h k.c.2 k.r.2 k.f.2, no]
    rfl
  apply fn_rt
  show b_law_refused [some (netD N), some (stD s), none, none, none] = _
  have rp : ∀ ρ : VEnv, look ρ 0 = .ok (netD N) → look ρ 1 = .ok (stD s) → (eF fRepr (aC (eLst (aC (eV 0) (aC (eV 1) aN))) aN)) ρ = .ok (.str (nsD N s).shown) := fun ρ z1 z2 => eF1 (lst2 (a := eV 0) (b := eV 1) z1 z2) r
  unfold b_law_refused
  refine st_set (rp _ rfl rfl) ?_
  have t : sTry 3 [2] (eF f_check_state (aC (eV 0) (aC (eV 1) aN)))
      (sSeq (sSet 4 (eAn (e1 (isExD [0]) (eV 3)) (eAn (e1 (isExD [100]) (eV 3)) (eNo (e1 (isExD [1, 3]) (eV 3))))))
      (sRet (eAn (eV 4) (e2 eqD (eF fRepr (aC (eLst (aC (eV 0) (aC (eV 1) aN))) aN)) (eV 2))))) [some (netD N), some (stD s), some (.str (nsD N s).shown), none, none] = .ok (.rt (.bool true)) := by
    have b1 : (eF f_check_state (aC (eV 0) (aC (eV 1) aN))) [some (netD N), some (stD s), some (.str (nsD N s).shown), none, none] = .ex 2 := c
    unfold sTry
    rw [b1]
    have s1 : sSeq (sSet 4 (eAn (e1 (isExD [0]) (eV 3)) (eAn (e1 (isExD [100]) (eV 3)) (eNo (e1 (isExD [1, 3]) (eV 3)))))) (sRet (eAn (eV 4) (e2 eqD (eF fRepr (aC (eLst (aC (eV 0) (aC (eV 1) aN))) aN)) (eV 2))))
        [some (netD N), some (stD s), some (.str (nsD N s).shown), some (exnD 2), none] = .ok (.rt (.bool true)) := by
      refine st_set (d := .bool true) rfl ?_
      refine ret_ev ((an_t rfl).trans ((e2_ev (rp _ rfl rfl) rfl).trans ?_))
      rw [eq_str]
      simp
    show (if [2].contains 2 then (match (sSeq _ _) [some (netD N), some (stD s), some (.str (nsD N s).shown), some (exnD 2), none] with
      | .ok (.rt d) => if okD d then R.ok (Out.rt d) else .no
      | _ => .no) else .no) = _
    rw [s1]
    simp [okD, PyData.canLay0, PyData.depth]
  exact seq_rt t

/-! ### lists of ints -/
def ilD (xs : List Int) : D := .list (xs.map .int)
def wD (W : List (List Int)) : D := .list (W.map ilD)
def cutA {α : Type} (xs : List α) (lo hi : Option Int) : List α := (xs.drop (sIxV xs.length 0 lo)).take (sIxV xs.length xs.length hi - sIxV xs.length 0 lo)
theorem cut_map {α : Type} (f : α → D) (xs : List α) (lo hi : Option Int) : cutL (xs.map f) lo hi = (cutA xs lo hi).map f := by
  simp only [cutL, cutA, List.length_map, List.map_take, List.map_drop]
theorem cutA_hi {α : Type} (xs : List α) (q : Nat) : cutA xs none (some (q : Int)) = xs.take q := by
  unfold cutA sIxV
  have : ¬ ((q : Int) < 0) := by omega
  simp only [this, if_false, Int.toNat_natCast, Nat.sub_zero, List.drop_zero]
  by_cases h : q ≤ xs.length
  · rw [Nat.min_eq_left h]
  · rw [Nat.min_eq_right (by omega), List.take_length, List.take_of_length_le (by omega)]
theorem cutA_lo {α : Type} (xs : List α) (q : Nat) : cutA xs (some (q : Int)) none = xs.drop q := by
  unfold cutA sIxV
  have : ¬ ((q : Int) < 0) := by omega
  simp only [this, if_false, Int.toNat_natCast]
  by_cases h : q ≤ xs.length
  · rw [Nat.min_eq_left h, List.take_of_length_le (by simp)]
  · rw [Nat.min_eq_right (by omega), List.drop_length, List.drop_of_length_le (by omega)]
    simp
theorem sl_hi {e k : EF} {ρ : VEnv} {xs : List Int} {q : Nat} (he : e ρ = .ok (ilD xs)) (hk : k ρ = .ok (.int (q : Int))) : (eSl e oN (oS k)) ρ = .ok (ilD (xs.take q)) := by
  have : (eSl e oN (oS k)) ρ = .ok (.list (cutL (xs.map .int) none (some (q : Int)))) := by
    simp only [eSl, he, oN, oS, hk, R.bind, asI, ilD]
  rw [this, cut_map, cutA_hi]
  rfl
theorem sl_lo {e k : EF} {ρ : VEnv} {xs : List Int} {q : Nat} (he : e ρ = .ok (ilD xs)) (hk : k ρ = .ok (.int (q : Int))) : (eSl e (oS k) oN) ρ = .ok (ilD (xs.drop q)) := by
  have : (eSl e (oS k) oN) ρ = .ok (.list (cutL (xs.map .int) (some (q : Int)) none)) := by
    simp only [eSl, he, oN, oS, hk, R.bind, asI, ilD]
  rw [this, cut_map, cutA_lo]
  rfl
theorem cat_il {a b : EF} {ρ : VEnv} {xs ys : List Int} (ha : a ρ = .ok (ilD xs)) (hb : b ρ = .ok (ilD ys)) (h : xs.length + ys.length ≤ 1000) : (e2 catD a b) ρ = .ok (ilD (xs ++ ys)) := by
  refine (e2_ev ha hb).trans ((cat_ok (by simp; omega)).trans ?_)
  simp [ilD]
theorem cat_w {a b : EF} {ρ : VEnv} {xs ys : List (List Int)} (ha : a ρ = .ok (wD xs)) (hb : b ρ = .ok (wD ys)) (h : xs.length + ys.length ≤ 1000) : (e2 catD a b) ρ = .ok (wD (xs ++ ys)) := by
  refine (e2_ev ha hb).trans ((cat_ok (by simp; omega)).trans ?_)
  simp [wD]
theorem one_il {a : EF} {ρ : VEnv} {x : Int} (ha : a ρ = .ok (.int x)) : (eLst (aC a aN)) ρ = .ok (ilD [x]) := by
  simp only [eLst, aC, aN, ha, R.bind]
  exact if_pos (by rw [big_val]; simp)
theorem rep_il {a b : EF} {ρ : VEnv} {xs : List Int} {k : Nat} (ha : a ρ = .ok (ilD xs)) (hb : b ρ = .ok (.int (k : Int))) (h1 : xs.length ≤ 100) (h2 : k ≤ 100) : (e2 repD a b) ρ = .ok (ilD (List.replicate k xs).flatten) := by
  refine (e2_ev ha hb).trans ?_
  have c : -(2 ^ 63) ≤ (k : Int) ∧ (k : Int) < 2 ^ 63 ∧ (xs.map PyData.int).length * ((k : Int)).toNat ≤ big := by
    rw [big_val]
    simp only [List.length_map, Int.toNat_natCast]
    have := Nat.mul_le_mul h1 h2
    omega
  simp only [repD, ilD]
  rw [if_pos c, Int.toNat_natCast]
  simp [ilD, List.map_flatten]
theorem len_il {a : EF} {ρ : VEnv} {xs : List Int} (ha : a ρ = .ok (ilD xs)) : (eF fLen (aC a aN)) ρ = .ok (.int (xs.length : Int)) := eF1 ha (by show fLen [.list (xs.map .int)] = _; rw [len_list, List.length_map])
theorem at_il {a b : EF} {ρ : VEnv} {xs : List Int} {k : Nat} (ha : a ρ = .ok (ilD xs)) (hb : b ρ = .ok (.int (k : Int))) (h : k < xs.length) : (e2 ixD a b) ρ = .ok (.int xs[k]) := (e2_ev ha hb).trans (item_ints h)
/-! ### bad lists -/
theorem okI_pw {n : Int} : ∀ {lo : Int} {xs : List Int}, okI n lo xs = true → xs.Pairwise (· < ·)
  | _, [], _ => .nil
  | lo, y :: r, h => by
    simp only [okI, Bool.and_eq_true, decide_eq_true_eq] at h
    exact .cons (fun x hx => (okI_lt h.2 x hx).1) (okI_pw h.2)
theorem bad_pw {n lo : Int} {xs : List Int} (h : ¬ xs.Pairwise (· < ·)) : okI n lo xs = false := by
  cases q : okI n lo xs with
  | true => exact absurd (okI_pw q) h
  | false => rfl
theorem bad_mem {n lo x : Int} {xs : List Int} (hx : x ∈ xs) (h : x ≤ lo ∨ n ≤ x) : okI n lo xs = false := by
  cases q : okI n lo xs with
  | true =>
    have := okI_lt q x hx
    omega
  | false => rfl
theorem npw {a b : List Int} {x y : Int} (hx : x ∈ a) (hy : y ∈ b) (h : y ≤ x) : ¬ (a ++ b).Pairwise (· < ·) := fun z => by
  have := (List.pairwise_append.mp z).2.2 x hx y hy
  omega
/-- bad, and small enough to be shown -/
def Bad (n : Int) (w : List Int) : Prop := okI n (-1) w = false ∧ (∀ x ∈ w, x.natAbs < 2 ^ 60) ∧ w.length ≤ 1000

theorem mem_loop {α : Type} {enc : α → D} {g : GF} {b : SF} {S : VEnv → Prop} : ∀ (xs : List α), (∀ x ∈ xs, ∀ ρ, S ρ → ∃ ρ1 ρ2, g (enc x) ρ = .ok ρ1 ∧ b ρ1 = .ok (.nx ρ2) ∧ S ρ2) → ∀ ρ, S ρ → ∃ ρ', forGo g b (xs.map enc) ρ = .ok (.nx ρ') ∧ S ρ'
  | [], _, ρ, hS => ⟨ρ, rfl, hS⟩
  | x :: xs, h, ρ, hS => by
    obtain ⟨ρ1, ρ2, e1, e2, h2⟩ := h x List.mem_cons_self ρ hS
    obtain ⟨ρ', e, h'⟩ := mem_loop xs (fun y hy => h y (List.mem_cons_of_mem _ hy)) ρ2 h2
    exact ⟨ρ', by rw [List.map_cons, for_cons e1 e2, e], h'⟩
/-! ### the innermost loop -/
noncomputable def oneB : SF := (sSeq (sSet 18 (eLst (aC (e2 ixD (eV 6) (eC (.int 0))) (aC (e2 ixD (eV 6) (eC (.int 1))) (aC (e2 ixD (eV 6) (eC (.int 2))) aN)))))
        (sSeq (sPut 18 (eV 11) (eF fTuple (aC (eV 16) aN)))
        (sIf (tNo (tTr (eF f_law_refused (aC (eV 1) (aC (eTup (aC (e2 ixD (eV 18) (eC (.int 0))) (aC (e2 ixD (eV 18) (eC (.int 1))) (aC (e2 ixD (eV 18) (eC (.int 2))) aN)))) aN)))))
          (sRet (eC (.bool false)))
          sNop)))
def par (s : Sta) : Nat → List Int
  | 0 => s.c
  | 1 => s.r
  | _ => s.f
def setP (s : Sta) (w : List Int) : Nat → Sta
  | 0 => ⟨w, s.r, s.f⟩
  | 1 => ⟨s.c, w, s.f⟩
  | _ => ⟨s.c, s.r, w⟩
def cnt (N : Net) : Nat → Int
  | 0 => N.ls.length
  | 1 => N.ss.length
  | _ => N.ds.length
abbrev cD (N : Net) : D := .list [.int (N.ls.length : Int), .int (N.ss.length : Int), .int (N.ds.length : Int)]
/-- the slots of law -/
abbrev Ev (ns : List Int) (N : Net) (x3 x4 x5 x6 x7 x8 x9 x10 x11 x12 x13 x14 x15 x16 x17 x18 : Option D) : VEnv :=
  [some (ilD ns), some (netD N), some (cD N), x3, x4, x5, x6, x7, x8, x9, x10, x11, x12, x13, x14, x15, x16, x17, x18]
section
variable {ns : List Int} {N : Net} {s : Sta} {p : Nat} {x3 x4 x5 x7 x8 x9 x10 x12 x13 x14 x15 x17 : Option D}
theorem setP_fit {w : List Int} (k : FitS s) (h : (∀ x ∈ w, x.natAbs < 2 ^ 60) ∧ w.length ≤ 1000) : FitS (setP s w p) := by
  unfold setP
  split
  · exact ⟨h, k.r, k.f⟩
  · exact ⟨k.c, h, k.f⟩
  · exact ⟨k.c, k.r, h⟩
theorem setP_bad {w : List Int} (h : okI (cnt N p) (-1) w = false) : okS N (setP s w p) = false := by
  unfold setP okS
  unfold cnt at h
  split at h <;> simp [h]
theorem one_turn (hp : p < 3) (hN : Fit N) (hs : FitS s) (w : List Int) (hw : Bad (cnt N p) w) (x18 : Option D) :
    ∃ y, oneB (Ev ns N x3 x4 x5 (some (stD s)) x7 x8 x9 x10 (some (.int (p : Int))) x12 x13 x14 x15 (some (ilD w)) x17 x18) =
      .ok (.nx (Ev ns N x3 x4 x5 (some (stD s)) x7 x8 x9 x10 (some (.int (p : Int))) x12 x13 x14 x15 (some (ilD w)) x17 y)) := by
  have r := ref_eq hN (setP_fit (p := p) hs hw.2) (setP_bad hw.1)
  have q : p = 0 ∨ p = 1 ∨ p = 2 := by omega
  have fin : ∀ (ρ : VEnv) (d : D), (eF f_law_refused (aC (eV 1) (aC (eTup (aC (e2 ixD (eV 18) (eC (.int 0))) (aC (e2 ixD (eV 18) (eC (.int 1))) (aC (e2 ixD (eV 18) (eC (.int 2))) aN)))) aN))) ρ = .ok (.bool true) →
      (sIf (tNo (tTr (eF f_law_refused (aC (eV 1) (aC (eTup (aC (e2 ixD (eV 18) (eC (.int 0))) (aC (e2 ixD (eV 18) (eC (.int 1))) (aC (e2 ixD (eV 18) (eC (.int 2))) aN)))) aN))))) (sRet (eC (.bool false))) sNop) ρ = .ok (.nx ρ) := fun ρ d z => by
    refine (if_f (tNo_ev (b := true) ?_)).trans rfl
    show (R.bind (_ : R D) _) = _
    rw [z]
    rfl
  have cal : ∀ (ρ : VEnv) (t : Sta), look ρ 1 = .ok (netD N) → look ρ 18 = .ok (.list [tupI t.c, tupI t.r, tupI t.f]) → f_law_refused [netD N, stD t] = .ok (.bool true) →
      (eF f_law_refused (aC (eV 1) (aC (eTup (aC (e2 ixD (eV 18) (eC (.int 0))) (aC (e2 ixD (eV 18) (eC (.int 1))) (aC (e2 ixD (eV 18) (eC (.int 2))) aN)))) aN))) ρ = .ok (.bool true) := fun ρ t z1 z2 z3 =>
    eF2 z1 (tup3 ((e2_ev (x := .list [tupI t.c, tupI t.r, tupI t.f]) (y := .int 0) z2 rfl).trans rfl) ((e2_ev (x := .list [tupI t.c, tupI t.r, tupI t.f]) (y := .int 1) z2 rfl).trans rfl) ((e2_ev (x := .list [tupI t.c, tupI t.r, tupI t.f]) (y := .int 2) z2 rfl).trans rfl)) z3
  rcases q with rfl | rfl | rfl
  · exact ⟨_, st_set (d := .list [tupI s.c, tupI s.r, tupI s.f]) rfl (st_nx (ρ' := Ev ns N x3 x4 x5 (some (stD s)) x7 x8 x9 x10 (some (.int 0)) x12 x13 x14 x15 (some (ilD w)) x17 (some (.list [tupI w, tupI s.r, tupI s.f]))) rfl (fin _ .none (cal _ (setP s w 0) rfl rfl r)))⟩
  · exact ⟨_, st_set (d := .list [tupI s.c, tupI s.r, tupI s.f]) rfl (st_nx (ρ' := Ev ns N x3 x4 x5 (some (stD s)) x7 x8 x9 x10 (some (.int 1)) x12 x13 x14 x15 (some (ilD w)) x17 (some (.list [tupI s.c, tupI w, tupI s.f]))) rfl (fin _ .none (cal _ (setP s w 1) rfl rfl r)))⟩
  · exact ⟨_, st_set (d := .list [tupI s.c, tupI s.r, tupI s.f]) rfl (st_nx (ρ' := Ev ns N x3 x4 x5 (some (stD s)) x7 x8 x9 x10 (some (.int 2)) x12 x13 x14 x15 (some (ilD w)) x17 (some (.list [tupI s.c, tupI s.r, tupI w]))) rfl (fin _ .none (cal _ (setP s w 2) rfl rfl r)))⟩
theorem one_loop (hp : p < 3) (hN : Fit N) (hs : FitS s) (W : List (List Int)) (hW : ∀ w ∈ W, Bad (cnt N p) w) (hl : W.length ≤ 1000) (x16 x18 : Option D) :
    ∃ y16 y18, sFor (iSeq (eV 14)) (gN 16) oneB (Ev ns N x3 x4 x5 (some (stD s)) x7 x8 x9 x10 (some (.int (p : Int))) x12 x13 (some (wD W)) x15 x16 x17 x18) =
      .ok (.nx (Ev ns N x3 x4 x5 (some (stD s)) x7 x8 x9 x10 (some (.int (p : Int))) x12 x13 (some (wD W)) x15 y16 x17 y18)) := by
  rw [for_go (ds := W.map ilD) rfl (by rw [List.length_map, big_val]; omega)]
  obtain ⟨ρ', e, y16, y18, rfl⟩ := mem_loop (enc := ilD) (g := gN 16) (b := oneB) (S := fun ρ => ∃ y16 y18, ρ = Ev ns N x3 x4 x5 (some (stD s)) x7 x8 x9 x10 (some (.int (p : Int))) x12 x13 (some (wD W)) x15 y16 x17 y18) W (fun w hw ρ hS => by
    obtain ⟨y16, y18, rfl⟩ := hS
    obtain ⟨z, e⟩ := one_turn (ns := ns) (x3 := x3) (x4 := x4) (x5 := x5) (x7 := x7) (x8 := x8) (x9 := x9) (x10 := x10) (x12 := x12) (x13 := x13) (x14 := some (wD W)) (x15 := x15) (x17 := x17) hp hN hs w (hW w hw) y18
    exact ⟨_, _, rfl, e, _, _, rfl⟩) _ ⟨x16, x18, rfl⟩
  exact ⟨y16, y18, e⟩
end

/-! ### the bad lists -/
def W1 (n fa : Int) (it : List Int) : List (List Int) := [it ++ [n + fa], [-1 - fa] ++ it, it ++ [10 ^ 15], [-1] ++ it, it ++ [n]]
def W2 (a : Nat) (it : List Int) : List (List Int) := [it.take a ++ [it.getD a 0] ++ it.drop a, it.drop 1 ++ (List.replicate (if 1 < it.length then 1 else 0) (it.take 1)).flatten ++ (List.replicate (if it.length = 1 then 1 else 0) (List.replicate 2 (it.take 1)).flatten).flatten]
def adj (it : List Int) (k : Nat) : List Int := it.take k ++ [it.getD (k + 1) 0, it.getD k 0] ++ it.drop (k + 2)
def W4 (pl : Nat) (it : List Int) : List (List Int) := [it.reverse, it.take pl ++ it.take 1 ++ it.drop pl]
section
variable {n fa : Int} {it : List Int} (hn : 0 ≤ n ∧ n ≤ 900) (hf : 0 ≤ fa ∧ fa ≤ 1000) (ok : okI n (-1) it = true)
include hn ok
theorem it_small : (∀ x ∈ it, 0 ≤ x ∧ x < n) ∧ it.length ≤ 900 := by
  refine ⟨fun x hx => by have := okI_lt ok x hx; omega, ?_⟩
  have := okI_len ok
  omega
theorem bad_of {w : List Int} (h1 : okI n (-1) w = false) (h2 : ∀ x ∈ w, x ∈ it ∨ x.natAbs < 2 ^ 60) (h3 : w.length ≤ it.length + 2) : Bad n w := by
  obtain ⟨a, b⟩ := it_small hn ok
  refine ⟨h1, fun x hx => ?_, by omega⟩
  rcases h2 x hx with h | h
  · have := a x h
    omega
  · exact h
theorem W2_bad (a : Nat) (ha : a < it.length) : ∀ w ∈ W2 a it, Bad n w := by
  have pw := okI_pw ok
  intro w hw
  simp only [W2, List.mem_cons, List.not_mem_nil, or_false] at hw
  have e : it.getD a 0 = it[a] := by rw [List.getD_eq_getElem?_getD, List.getElem?_eq_getElem ha]; rfl
  rcases hw with rfl | rfl
  · refine bad_of hn ok (bad_pw ?_) (fun x hx => ?_) ?_
    · rw [e]
      refine npw (x := it[a]) (y := it[a]) (List.mem_append.mpr (.inr (List.mem_singleton.mpr rfl))) ?_ (Int.le_refl _)
      rw [List.drop_eq_getElem_cons ha]
      exact List.mem_cons_self
    · simp only [List.mem_append, List.mem_singleton] at hx
      rcases hx with (h | h) | h
      · exact .inl (List.mem_of_mem_take h)
      · rw [h, e]; exact .inl (List.getElem_mem ha)
      · exact .inl (List.mem_of_mem_drop h)
    · simp only [List.length_append, List.length_take, List.length_drop, List.length_singleton]
      omega
  · rcases it with _ | ⟨y, _ | ⟨z, r⟩⟩
    · simp at ha
    · refine bad_of hn ok (bad_pw ?_) (fun x hx => ?_) ?_
      · simp
      · simp at hx
        simp [hx]
      · simp
    · have lt : y < z := (List.pairwise_cons.mp pw).1 z List.mem_cons_self
      have ew : (y :: z :: r).drop 1 ++ (List.replicate (if 1 < (y :: z :: r).length then 1 else 0) ((y :: z :: r).take 1)).flatten ++ (List.replicate (if (y :: z :: r).length = 1 then 1 else 0) (List.replicate 2 ((y :: z :: r).take 1)).flatten).flatten = (z :: r) ++ [y] := by simp
      rw [ew]
      refine bad_of hn ok (bad_pw (npw (x := z) (y := y) List.mem_cons_self (by simp) (by omega))) (fun x hx => .inl ?_) (by simp)
      simp at hx ⊢
      rcases hx with h | h | h
      · exact .inr (.inl h)
      · exact .inr (.inr h)
      · exact .inl h
theorem adj_bad (k : Nat) (hk : k + 1 < it.length) : Bad n (adj it k) := by
  have pw := okI_pw ok
  have e1 : it.getD (k + 1) 0 = it[k + 1] := by rw [List.getD_eq_getElem?_getD, List.getElem?_eq_getElem hk]; rfl
  have e0 : it.getD k 0 = it[k] := by rw [List.getD_eq_getElem?_getD, List.getElem?_eq_getElem (by omega)]; rfl
  have lt : it[k] < it[k + 1] := List.pairwise_iff_getElem.mp pw k (k + 1) (by omega) hk (by omega)
  unfold adj
  rw [e0, e1]
  refine bad_of hn ok (bad_pw ?_) (fun x hx => ?_) ?_
  · rw [show it.take k ++ [it[k + 1], it[k]] ++ it.drop (k + 2) = (it.take k ++ [it[k + 1]]) ++ ([it[k]] ++ it.drop (k + 2)) by simp]
    exact npw (x := it[k + 1]) (y := it[k]) (by simp) (by simp) (by omega)
  · simp only [List.mem_append, List.mem_cons, List.not_mem_nil, or_false] at hx
    rcases hx with (h | h | h) | h
    · exact .inl (List.mem_of_mem_take h)
    · rw [h]; exact .inl (List.getElem_mem _)
    · rw [h]; exact .inl (List.getElem_mem _)
    · exact .inl (List.mem_of_mem_drop h)
  · simp only [List.length_append, List.length_take, List.length_drop, List.length_cons, List.length_nil]
    omega
theorem W4_bad (pl : Nat) (h1 : 1 < it.length) : ∀ w ∈ W4 pl it, Bad n w := by
  have pw := okI_pw ok
  intro w hw
  simp only [W4, List.mem_cons, List.not_mem_nil, or_false] at hw
  rcases it with _ | ⟨y, _ | ⟨z, r⟩⟩
  · simp at h1
  · simp at h1
  have lt : y < z := (List.pairwise_cons.mp pw).1 z List.mem_cons_self
  rcases hw with rfl | rfl
  · refine bad_of hn ok (bad_pw ?_) (fun x hx => .inl (List.mem_reverse.mp hx)) (by simp)
    rw [List.reverse_cons, List.reverse_cons]
    exact npw (x := z) (y := y) (by simp) (by simp) (by omega)
  · refine bad_of hn ok (bad_pw ?_) (fun x hx => .inl ?_) ?_
    · cases pl with
      | zero => exact npw (a := (y :: z :: r).take 0 ++ (y :: z :: r).take 1) (b := (y :: z :: r).drop 0) (x := y) (y := y) (by simp) (by simp) (Int.le_refl _)
      | succ m =>
        rw [List.append_assoc]
        exact npw (x := y) (y := y) (by simp) (by simp) (Int.le_refl _)
    · simp only [List.mem_append] at hx
      rcases hx with (h | h) | h
      · exact List.mem_of_mem_take h
      · exact List.mem_of_mem_take h
      · exact List.mem_of_mem_drop h
    · simp only [List.length_append, List.length_take, List.length_drop]
      omega
include hf
theorem W1_bad : ∀ w ∈ W1 n fa it, Bad n w := by
  intro w hw
  simp only [W1, List.mem_cons, List.not_mem_nil, or_false] at hw
  rcases hw with rfl | rfl | rfl | rfl | rfl
  · exact bad_of hn ok (bad_mem (x := n + fa) (by simp) (by omega)) (fun x hx => by
      simp only [List.mem_append, List.mem_singleton] at hx
      rcases hx with h | h
      · exact .inl h
      · exact .inr (by omega)) (by simp)
  · exact bad_of hn ok (bad_mem (x := -1 - fa) (by simp) (by omega)) (fun x hx => by
      simp only [List.mem_append, List.mem_singleton] at hx
      rcases hx with h | h
      · exact .inr (by omega)
      · exact .inl h) (by simp)
  · exact bad_of hn ok (bad_mem (x := 10 ^ 15) (by simp) (by omega)) (fun x hx => by
      simp only [List.mem_append, List.mem_singleton] at hx
      rcases hx with h | h
      · exact .inl h
      · exact .inr (by omega)) (by simp)
  · exact bad_of hn ok (bad_mem (x := -1) (by simp) (by omega)) (fun x hx => by
      simp only [List.mem_append, List.mem_singleton] at hx
      rcases hx with h | h
      · exact .inr (by omega)
      · exact .inl h) (by simp)
  · exact bad_of hn ok (bad_mem (x := n) (by simp) (by omega)) (fun x hx => by
      simp only [List.mem_append, List.mem_singleton] at hx
      rcases hx with h | h
      · exact .inl h
      · exact .inr (by omega)) (by simp)
end

/-! ### a part of a state -/
def if2B : SF := (sIf (tB (e2 gtD (eF fLen (aC (eV 12) aN)) (eC (.int 0))))
        (sSeq (sSet 17 (e2 modD (eF fInt (aC (e2 ixD (eV 9) (eC (.int 1))) aN)) (eF fLen (aC (eV 12) aN))))
        (sSet 14 (e2 catD (eV 14) (eLst (aC (e2 catD (e2 catD (eSl (eV 12) oN (oS (eV 17))) (eLst (aC (e2 ixD (eV 12) (eV 17)) aN))) (eSl (eV 12) (oS (eV 17)) oN)) (aC (e2 catD (e2 catD (eSl (eV 12) (oS (eC (.int 1))) oN) (e2 repD (eSl (eV 12) oN (oS (eC (.int 1)))) (eF fInt (aC (e2 gtD (eF fLen (aC (eV 12) aN)) (eC (.int 1))) aN)))) (e2 repD (e2 repD (eSl (eV 12) oN (oS (eC (.int 1)))) (eC (.int 2))) (eF fInt (aC (e2 eqD (eF fLen (aC (eV 12) aN)) (eC (.int 1))) aN)))) aN))))))
        sNop)
def adjB : SF := (sApp 14 (e2 catD (e2 catD (eSl (eV 12) oN (oS (eV 15))) (eLst (aC (e2 ixD (eV 12) (e2 addD (eV 15) (eC (.int 1)))) (aC (e2 ixD (eV 12) (eV 15)) aN)))) (eSl (eV 12) (oS (e2 addD (eV 15) (eC (.int 2)))) oN)))
def if4B : SF := (sIf (tB (e2 gtD (eF fLen (aC (eV 12) aN)) (eC (.int 1))))
        (sSet 14 (e2 catD (eV 14) (eLst (aC (e1 revD (eV 12)) (aC (e2 catD (e2 catD (eSl (eV 12) oN (oS (eV 13))) (eSl (eV 12) oN (oS (eC (.int 1))))) (eSl (eV 12) (oS (eV 13)) oN)) aN)))))
        sNop)
noncomputable def partB : SF := (sSeq (sSet 12 (eF fList (aC (e2 ixD (eV 6) (eV 11)) aN)))
      (sSeq (sSet 13 (e2 modD (eF fInt (aC (e2 ixD (eV 9) (eC (.int 1))) aN)) (e2 addD (eF fLen (aC (eV 12) aN)) (eC (.int 1)))))
      (sSeq (sSet 14 (eLst (aC (e2 catD (eV 12) (eLst (aC (e2 addD (e2 ixD (eV 2) (eV 11)) (eV 10)) aN))) (aC (e2 catD (eLst (aC (e2 subD (e1 negD (eC (.int 1))) (eV 10)) aN)) (eV 12)) (aC (e2 catD (eV 12) (eLst (aC (e2 powD (eC (.int 10)) (eC (.int 15))) aN))) (aC (e2 catD (eLst (aC (e1 negD (eC (.int 1))) aN)) (eV 12)) (aC (e2 catD (eV 12) (eLst (aC (e2 ixD (eV 2) (eV 11)) aN))) aN)))))))
      (sSeq if2B
      (sSeq (sFor (iRg1 (aC (e2 subD (eF fLen (aC (eV 12) aN)) (eC (.int 1))) aN)) (gN 15) adjB)
      (sSeq if4B
      (sFor (iSeq (eV 14)) (gN 16) oneB)))))))
theorem lst5 {a b c d e : EF} {ρ : VEnv} {x y z w v : D} (ha : a ρ = .ok x) (hb : b ρ = .ok y) (hc : c ρ = .ok z) (hd : d ρ = .ok w) (he : e ρ = .ok v) : (eLst (aC a (aC b (aC c (aC d (aC e aN)))))) ρ = .ok (.list [x, y, z, w, v]) := by
  simp only [eLst, aC, aN, ha, hb, hc, hd, he, R.bind]
  exact if_pos (by rw [big_val]; simp)
theorem two_il {a b : EF} {ρ : VEnv} {x y : Int} (ha : a ρ = .ok (.int x)) (hb : b ρ = .ok (.int y)) : (eLst (aC a (aC b aN))) ρ = .ok (ilD [x, y]) := lst2 ha hb
theorem part_at {s : Sta} {p : Nat} (hp : p < 3) : ixD (stD s) (.int (p : Int)) = .ok (tupI (par s p)) := by
  have q : p = 0 ∨ p = 1 ∨ p = 2 := by omega
  rcases q with rfl | rfl | rfl <;> rfl
theorem cnt_at {N : Net} {p : Nat} (hp : p < 3) : ixD (cD N) (.int (p : Int)) = .ok (.int (cnt N p)) := by
  have q : p = 0 ∨ p = 1 ∨ p = 2 := by omega
  rcases q with rfl | rfl | rfl <;> rfl
section
variable {ns : List Int} {N : Net} {s : Sta} {p : Nat} {n fa dr : Int} {it : List Int} {x3 x4 x5 x6 x7 x8 x10 x11 x13 x15 x16 x17 x18 : Option D}
theorem gt_len {ρ : VEnv} {k : Int} (h : look ρ 12 = .ok (ilD it)) : tB (e2 gtD (eF fLen (aC (eV 12) aN)) (eC (.int k))) ρ = .ok (decide (k < (it.length : Int))) := tB_ev ((e2_ev (len_il h) rfl).trans rfl)
theorem if2_turn (hn : 0 ≤ n ∧ n ≤ 900) (ok : okI n (-1) it = true) (W : List (List Int)) (hW : ∀ w ∈ W, Bad n w) (hl : W.length ≤ 10) :
    ∃ W' y17, (∀ w ∈ W', Bad n w) ∧ W'.length ≤ 12 ∧ if2B (Ev ns N x3 x4 x5 x6 x7 x8 (some (.list [.int fa, .int dr])) x10 x11 (some (ilD it)) x13 (some (wD W)) x15 x16 x17 x18) =
      .ok (.nx (Ev ns N x3 x4 x5 x6 x7 x8 (some (.list [.int fa, .int dr])) x10 x11 (some (ilD it)) x13 (some (wD W')) x15 x16 y17 x18)) := by
  have sm := it_small hn ok
  by_cases h : 0 < it.length
  · obtain ⟨m0, m1⟩ := fmod_lt (a := dr) (b := (it.length : Int)) (by omega)
    obtain ⟨a, ha⟩ := Int.eq_ofNat_of_zero_le m0
    have al : a < it.length := by omega
    refine ⟨W ++ W2 a it, some (.int (a : Int)), fun w hw => ?_, by simp [W2]; omega, (if_t ((gt_len rfl).trans (by rw [decide_eq_true (by omega)]))).trans ?_⟩
    · rcases List.mem_append.mp hw with h | h
      · exact hW w h
      · exact W2_bad hn ok a al w h
    have nz : (it.length : Int) ≠ 0 := by omega
    refine st_set (d := .int (a : Int)) ?_ ?_
    · refine (e2_ev (x := .int dr) (y := .int (it.length : Int)) rfl (len_il rfl)).trans ?_
      show (if (it.length : Int) ≠ 0 then R.ok (PyData.int (dr.fmod (it.length : Int))) else .no) = _
      rw [if_pos nz, ha]
    · refine (set_nx (d := wD (W ++ W2 a it)) (cat_w (xs := W) (ys := W2 a it) rfl ?_ (by simp [W2]; omega))).trans rfl
      have e : it.getD a 0 = it[a] := by rw [List.getD_eq_getElem?_getD, List.getElem?_eq_getElem al]; rfl
      refine lst2 (x := ilD (it.take a ++ [it.getD a 0] ++ it.drop a)) (y := ilD (it.drop 1 ++ (List.replicate (if 1 < it.length then 1 else 0) (it.take 1)).flatten ++ (List.replicate (if it.length = 1 then 1 else 0) (List.replicate 2 (it.take 1)).flatten).flatten)) ?_ ?_
      · rw [e]
        exact cat_il (cat_il (sl_hi rfl rfl) (one_il (at_il rfl rfl al)) (by simp; omega)) (sl_lo rfl rfl) (by simp; omega)
      · have g1 : ∀ ρ : VEnv, look ρ 12 = .ok (ilD it) → (eF fInt (aC (e2 gtD (eF fLen (aC (eV 12) aN)) (eC (.int 1))) aN)) ρ = .ok (.int ((if 1 < it.length then 1 else 0 : Nat) : Int)) := fun ρ z => by
          refine eF1 ((e2_ev (len_il z) rfl).trans rfl) ?_
          show R.ok (PyData.int (if decide ((1 : Int) < (it.length : Int)) = true then 1 else 0)) = _
          by_cases q : 1 < it.length
          · rw [if_pos (by rw [decide_eq_true_eq]; omega), if_pos q]; rfl
          · rw [if_neg (by rw [decide_eq_true_eq]; omega), if_neg q]; rfl
        have g2 : ∀ ρ : VEnv, look ρ 12 = .ok (ilD it) → (eF fInt (aC (e2 eqD (eF fLen (aC (eV 12) aN)) (eC (.int 1))) aN)) ρ = .ok (.int ((if it.length = 1 then 1 else 0 : Nat) : Int)) := fun ρ z => by
          refine eF1 ((e2_ev (len_il z) rfl).trans (eq_int _ _)) ?_
          show R.ok (PyData.int (if ((it.length : Int) == 1) = true then 1 else 0)) = _
          by_cases q : it.length = 1
          · rw [if_pos (by simp; omega), if_pos q]; rfl
          · rw [if_neg (by simp; omega), if_neg q]; rfl
        have t1 : (it.take 1).length ≤ 1 := by simp; omega
        have c1 : (if 1 < it.length then 1 else 0) ≤ 1 := by split <;> omega
        have c2 : (if it.length = 1 then 1 else 0) ≤ 1 := by split <;> omega
        have f1 : ((List.replicate (if 1 < it.length then 1 else 0) (it.take 1)).flatten).length ≤ 1 := by split <;> simp <;> omega
        have f2 : ((List.replicate 2 (it.take 1)).flatten).length ≤ 2 := by simp [List.replicate_succ]; omega
        have f3 : ((List.replicate (if it.length = 1 then 1 else 0) (List.replicate 2 (it.take 1)).flatten).flatten).length ≤ 2 := by split <;> simp [List.replicate_succ] <;> omega
        refine cat_il (cat_il (sl_lo (q := 1) rfl rfl) (rep_il (sl_hi (q := 1) rfl rfl) (g1 _ rfl) (by omega) (by omega)) (by simp only [List.length_drop]; omega)) (rep_il (rep_il (k := 2) (sl_hi (q := 1) rfl rfl) rfl (by omega) (by omega)) (g2 _ rfl) (by omega) (by omega)) (by simp only [List.length_append, List.length_drop]; omega)
  · exact ⟨W, x17, hW, by omega, (if_f ((gt_len rfl).trans (by rw [decide_eq_false (by omega)]))).trans rfl⟩
theorem adj_loop (hn : 0 ≤ n ∧ n ≤ 900) (ok : okI n (-1) it = true) (W : List (List Int)) (hW : ∀ w ∈ W, Bad n w) (hl : W.length ≤ 12) {x9 : Option D} :
    ∃ W' y15, (∀ w ∈ W', Bad n w) ∧ W'.length ≤ 950 ∧ sFor (iRg1 (aC (e2 subD (eF fLen (aC (eV 12) aN)) (eC (.int 1))) aN)) (gN 15) adjB (Ev ns N x3 x4 x5 x6 x7 x8 x9 x10 x11 (some (ilD it)) x13 (some (wD W)) x15 x16 x17 x18) =
      .ok (.nx (Ev ns N x3 x4 x5 x6 x7 x8 x9 x10 x11 (some (ilD it)) x13 (some (wD W')) y15 x16 x17 x18)) := by
  have sm := it_small hn ok
  have hi : (aC (e2 subD (eF fLen (aC (eV 12) aN)) (eC (.int 1))) aN) (Ev ns N x3 x4 x5 x6 x7 x8 x9 x10 x11 (some (ilD it)) x13 (some (wD W)) x15 x16 x17 x18) = .ok [.int ((it.length : Int) - 1)] := by
    have : (e2 subD (eF fLen (aC (eV 12) aN)) (eC (.int 1))) (Ev ns N x3 x4 x5 x6 x7 x8 x9 x10 x11 (some (ilD it)) x13 (some (wD W)) x15 x16 x17 x18) = .ok (.int ((it.length : Int) - 1)) := (e2_ev (len_il (xs := it) rfl) rfl).trans rfl
    simp only [aC, aN, this, R.bind]
  have rg : rangeD 0 ((it.length : Int) - 1) = rangeD 0 ((it.length - 1 : Nat) : Int) := by
    unfold rangeD
    congr 2
    omega
  have c : -(2 ^ 62) ≤ (it.length : Int) - 1 ∧ (it.length : Int) - 1 < 2 ^ 62 := by omega
  have hr : (iRg1 (aC (e2 subD (eF fLen (aC (eV 12) aN)) (eC (.int 1))) aN)) (Ev ns N x3 x4 x5 x6 x7 x8 x9 x10 x11 (some (ilD it)) x13 (some (wD W)) x15 x16 x17 x18) = .ok (rangeD 0 ((it.length - 1 : Nat) : Int)) := by
    simp only [iRg1, hi, R.bind, rng1]
    rw [if_pos c, rg]
  rw [for_go hr (by rw [rangeD_length, big_val]; omega)]
  obtain ⟨ρ', e, W', y15, h1, h2, rfl⟩ := range_loop (g := gN 15) (b := adjB) (it.length - 1) (fun j ρ => ∃ W' y15, (∀ w ∈ W', Bad n w) ∧ W'.length ≤ 12 + j ∧ ρ = Ev ns N x3 x4 x5 x6 x7 x8 x9 x10 x11 (some (ilD it)) x13 (some (wD W')) y15 x16 x17 x18) (fun k ρ hk hP => by
    obtain ⟨W', y15, h1, h2, rfl⟩ := hP
    have b : Bad n (adj it k) := adj_bad hn ok k (by omega)
    refine ⟨_, _, rfl, ?_, W' ++ [adj it k], some (.int (k : Int)), fun w hw => ?_, by simp; omega, rfl⟩
    · have e1 : it.getD (k + 1) 0 = it[k + 1]'(by omega) := by rw [List.getD_eq_getElem?_getD, List.getElem?_eq_getElem (by omega)]; rfl
      have e0 : it.getD k 0 = it[k]'(by omega) := by rw [List.getD_eq_getElem?_getD, List.getElem?_eq_getElem (by omega)]; rfl
      have ev : (e2 catD (e2 catD (eSl (eV 12) oN (oS (eV 15))) (eLst (aC (e2 ixD (eV 12) (e2 addD (eV 15) (eC (.int 1)))) (aC (e2 ixD (eV 12) (eV 15)) aN)))) (eSl (eV 12) (oS (e2 addD (eV 15) (eC (.int 2)))) oN))
          (Ev ns N x3 x4 x5 x6 x7 x8 x9 x10 x11 (some (ilD it)) x13 (some (wD W')) (some (.int (k : Int))) x16 x17 x18) = .ok (ilD (adj it k)) := by
        unfold adj
        rw [e0, e1]
        exact cat_il (cat_il (sl_hi rfl rfl) (two_il (at_il (k := k + 1) rfl rfl (by omega)) (at_il rfl rfl (by omega))) (by simp; omega)) (sl_lo (q := k + 2) rfl rfl) (by simp; omega)
      show sApp 14 _ (Ev ns N x3 x4 x5 x6 x7 x8 x9 x10 x11 (some (ilD it)) x13 (some (wD W')) (some (.int (k : Int))) x16 x17 x18) = _
      unfold sApp
      show (((e2 catD _ _) _).bind fun d => if (W'.map ilD).length < big then R.ok (Out.nx _) else .no) = _
      rw [ev]
      show (if (W'.map ilD).length < big then R.ok (Out.nx _) else .no) = _
      rw [if_pos (by rw [List.length_map, big_val]; omega)]
      simp only [wD, List.map_append, List.map_cons, List.map_nil]
      rfl
    · rcases List.mem_append.mp hw with h | h
      · exact h1 w h
      · rw [List.mem_singleton.mp h]; exact b) _ ⟨W, x15, hW, by omega, rfl⟩
  exact ⟨W', y15, h1, by omega, e⟩
theorem if4_turn (hn : 0 ≤ n ∧ n ≤ 900) (ok : okI n (-1) it = true) (W : List (List Int)) (hW : ∀ w ∈ W, Bad n w) (hl : W.length ≤ 950) (pl : Nat) {x9 : Option D} :
    ∃ W', (∀ w ∈ W', Bad n w) ∧ W'.length ≤ 1000 ∧ if4B (Ev ns N x3 x4 x5 x6 x7 x8 x9 x10 x11 (some (ilD it)) (some (.int (pl : Int))) (some (wD W)) x15 x16 x17 x18) =
      .ok (.nx (Ev ns N x3 x4 x5 x6 x7 x8 x9 x10 x11 (some (ilD it)) (some (.int (pl : Int))) (some (wD W')) x15 x16 x17 x18)) := by
  have sm := it_small hn ok
  by_cases h : 1 < it.length
  · refine ⟨W ++ W4 pl it, fun w hw => ?_, by simp [W4]; omega, (if_t ((gt_len rfl).trans (by rw [decide_eq_true (by omega)]))).trans ?_⟩
    · rcases List.mem_append.mp hw with q | q
      · exact hW w q
      · exact W4_bad hn ok pl h w q
    refine (set_nx (d := wD (W ++ W4 pl it)) (cat_w (xs := W) (ys := W4 pl it) rfl ?_ (by simp [W4]; omega))).trans rfl
    refine lst2 (x := ilD it.reverse) (y := ilD (it.take pl ++ it.take 1 ++ it.drop pl)) ?_ ?_
    · refine (e1_ev (x := ilD it) rfl).trans ?_
      show R.ok (PyData.list (it.map PyData.int).reverse) = _
      rw [← List.map_reverse]
      rfl
    · exact cat_il (cat_il (sl_hi rfl rfl) (sl_hi (q := 1) rfl rfl) (by simp; omega)) (sl_lo rfl rfl) (by simp; omega)
  · exact ⟨W, hW, by omega, (if_f ((gt_len rfl).trans (by rw [decide_eq_false (by omega)]))).trans rfl⟩
end
section
variable {ns : List Int} {N : Net} {s : Sta} {p : Nat} {fa dr : Int} {x3 x4 x5 x7 x8 : Option D}
theorem okS_par (h : okS N s = true) : okI (cnt N p) (-1) (par s p) = true := by
  simp only [okS, Bool.and_eq_true] at h
  unfold cnt par
  split
  · exact h.1.1
  · exact h.1.2
  · exact h.2
theorem cnt_le (h : N.ls.length ≤ 900 ∧ N.ss.length ≤ 900 ∧ N.ds.length ≤ 900) : 0 ≤ cnt N p ∧ cnt N p ≤ 900 := by
  unfold cnt
  split <;> omega
/-- the slots between two parts -/
def SP (ns : List Int) (N : Net) (s : Sta) (fa dr : Int) (x3 x4 x5 x7 x8 : Option D) (ρ : VEnv) : Prop :=
  ∃ x11 x12 x13 x14 x15 x16 x17 x18, ρ = Ev ns N x3 x4 x5 (some (stD s)) x7 x8 (some (.list [.int fa, .int dr])) (some (.int fa)) x11 x12 x13 x14 x15 x16 x17 x18
theorem part_turn (hp : p < 3) (hN : Fit N) (hl : N.ls.length ≤ 900 ∧ N.ss.length ≤ 900 ∧ N.ds.length ≤ 900) (hs : FitS s) (ok : okS N s = true) (hf : 0 ≤ fa ∧ fa ≤ 1000) (ρ : VEnv) (h : SP ns N s fa dr x3 x4 x5 x7 x8 ρ) :
    ∃ ρ1 ρ2, gN 11 (.int (p : Int)) ρ = .ok ρ1 ∧ partB ρ1 = .ok (.nx ρ2) ∧ SP ns N s fa dr x3 x4 x5 x7 x8 ρ2 := by
  obtain ⟨x11, x12, x13, x14, x15, x16, x17, x18, rfl⟩ := h
  have hn := cnt_le (p := p) hl
  have okp := okS_par (p := p) ok
  obtain ⟨it, hit⟩ : ∃ it, it = par s p := ⟨_, rfl⟩
  rw [← hit] at okp
  have sm := it_small hn okp
  obtain ⟨m0, m1⟩ := fmod_lt (a := dr) (b := (it.length : Int) + 1) (by omega)
  obtain ⟨pl, hpl⟩ := Int.eq_ofNat_of_zero_le m0
  let ρ1 : VEnv := Ev ns N x3 x4 x5 (some (stD s)) x7 x8 (some (.list [.int fa, .int dr])) (some (.int fa)) (some (.int (p : Int))) x12 x13 x14 x15 x16 x17 x18
  have s1 : (eF fList (aC (e2 ixD (eV 6) (eV 11)) aN)) ρ1 = .ok (ilD it) := eF1 ((e2_ev (x := stD s) (y := .int (p : Int)) rfl rfl).trans (part_at hp)) (by rw [hit]; rfl)
  have nz : (it.length : Int) + 1 ≠ 0 := by omega
  let ρ2 : VEnv := Ev ns N x3 x4 x5 (some (stD s)) x7 x8 (some (.list [.int fa, .int dr])) (some (.int fa)) (some (.int (p : Int))) (some (ilD it)) x13 x14 x15 x16 x17 x18
  have s2 : (e2 modD (eF fInt (aC (e2 ixD (eV 9) (eC (.int 1))) aN)) (e2 addD (eF fLen (aC (eV 12) aN)) (eC (.int 1)))) ρ2 = .ok (.int (pl : Int)) := by
    refine (e2_ev (x := .int dr) (y := .int ((it.length : Int) + 1)) rfl ((e2_ev (len_il (xs := it) rfl) rfl).trans rfl)).trans ?_
    show (if (it.length : Int) + 1 ≠ 0 then R.ok (PyData.int (dr.fmod ((it.length : Int) + 1))) else .no) = _
    rw [if_pos nz, hpl]
  let ρ3 : VEnv := Ev ns N x3 x4 x5 (some (stD s)) x7 x8 (some (.list [.int fa, .int dr])) (some (.int fa)) (some (.int (p : Int))) (some (ilD it)) (some (.int (pl : Int))) x14 x15 x16 x17 x18
  have cn : (e2 ixD (eV 2) (eV 11)) ρ3 = .ok (.int (cnt N p)) := (e2_ev (x := cD N) (y := .int (p : Int)) rfl rfl).trans (cnt_at hp)
  have s3 : (eLst (aC (e2 catD (eV 12) (eLst (aC (e2 addD (e2 ixD (eV 2) (eV 11)) (eV 10)) aN))) (aC (e2 catD (eLst (aC (e2 subD (e1 negD (eC (.int 1))) (eV 10)) aN)) (eV 12)) (aC (e2 catD (eV 12) (eLst (aC (e2 powD (eC (.int 10)) (eC (.int 15))) aN))) (aC (e2 catD (eLst (aC (e1 negD (eC (.int 1))) aN)) (eV 12)) (aC (e2 catD (eV 12) (eLst (aC (e2 ixD (eV 2) (eV 11)) aN))) aN)))))) ρ3 = .ok (wD (W1 (cnt N p) fa it)) :=
    lst5 (cat_il (xs := it) (ys := [cnt N p + fa]) rfl (one_il ((e2_ev cn rfl).trans rfl)) (by simp; omega)) (cat_il (xs := [-1 - fa]) (ys := it) (one_il rfl) rfl (by simp; omega)) (cat_il (xs := it) (ys := [10 ^ 15]) rfl (one_il rfl) (by simp; omega)) (cat_il (xs := [-1]) (ys := it) (one_il rfl) rfl (by simp; omega)) (cat_il (xs := it) (ys := [cnt N p]) rfl (one_il cn) (by simp; omega))
  obtain ⟨Wa, y17, a1, a2, a3⟩ := if2_turn (ns := ns) (N := N) (fa := fa) (dr := dr) (x3 := x3) (x4 := x4) (x5 := x5) (x6 := some (stD s)) (x7 := x7) (x8 := x8) (x10 := some (.int fa)) (x11 := some (.int (p : Int))) (x13 := some (.int (pl : Int))) (x15 := x15) (x16 := x16) (x17 := x17) (x18 := x18) hn okp (W1 (cnt N p) fa it) (W1_bad hn hf okp) (by simp [W1])
  obtain ⟨Wb, y15, b1, b2, b3⟩ := adj_loop (ns := ns) (N := N) (x3 := x3) (x4 := x4) (x5 := x5) (x6 := some (stD s)) (x7 := x7) (x8 := x8) (x9 := some (.list [.int fa, .int dr])) (x10 := some (.int fa)) (x11 := some (.int (p : Int))) (x13 := some (.int (pl : Int))) (x15 := x15) (x16 := x16) (x17 := y17) (x18 := x18) hn okp Wa a1 a2
  obtain ⟨Wc, c1, c2, c3⟩ := if4_turn (ns := ns) (N := N) (x3 := x3) (x4 := x4) (x5 := x5) (x6 := some (stD s)) (x7 := x7) (x8 := x8) (x9 := some (.list [.int fa, .int dr])) (x10 := some (.int fa)) (x11 := some (.int (p : Int))) (x15 := y15) (x16 := x16) (x17 := y17) (x18 := x18) hn okp Wb b1 b2 pl
  obtain ⟨y16, y18, d3⟩ := one_loop (ns := ns) (x3 := x3) (x4 := x4) (x5 := x5) (x7 := x7) (x8 := x8) (x9 := some (.list [.int fa, .int dr])) (x10 := some (.int fa)) (x12 := some (ilD it)) (x13 := some (.int (pl : Int))) (x15 := y15) (x17 := y17) hp hN hs Wc c1 c2 x16 x18
  exact ⟨ρ1, _, rfl, st_set s1 (st_set s2 (st_set s3 (st_nx a3 (st_nx b3 (st_nx c3 d3))))), _, _, _, _, _, _, _, _, rfl⟩
end

theorem eq_bool (a b : Bool) : eqD (.bool a) (.bool b) = .ok (.bool (a == b)) := by cases a <;> cases b <;> simp [eqD, okD, PyData.canLay0, PyData.depth, PyData.eqv]
theorem ne_bool (a b : Bool) : neD (.bool a) (.bool b) = .ok (.bool (!(a == b))) := by cases a <;> cases b <;> simp [neD, okD, PyData.canLay0, PyData.depth, PyData.eqv]
noncomputable def cellB : SF := (sSeq (sSet 6 (eF f_law_state (aC (eV 3) (aC (eV 1) aN))))
    (sSeq (sSet 7 (eF fRepr (aC (eLst (aC (eV 1) (aC (eV 6) aN))) aN)))
    (sSeq (sSet 8 (eF f_is_full (aC (eV 1) (aC (eV 6) aN))))
    (sSeq (sIf (tOr (tB (e2 isNotNoneD (eF f_check_state (aC (eV 1) (aC (eV 6) aN))) (eC .none))) (tOr (tNo (tTr (e1 (isiD "bool") (eV 8)))) (tOr (tB (e2 neD (eV 8) (e2 eqD (eF fLen (aC (e2 ixD (eV 6) (eC (.int 2))) aN)) (eF fLen (aC (e2 ixD (eV 1) (eC (.int 3))) aN))))) (tB (e2 neD (eF fRepr (aC (eLst (aC (eV 1) (aC (eV 6) aN))) aN)) (eV 7))))))
      (sRet (eC (.bool false)))
      sNop)
    (sSeq (sSet 9 (eF f_law_draws (aC (eV 3) (aC (eLst (aC (eC (.int 1000)) (aC (eC (.int 12)) aN))) aN))))
    (sSeq (sSet 10 (e2 ixD (eV 9) (eC (.int 0))))
    (sFor (iRg1 (aC (eC (.int 3)) aN)) (gN 11) partB)))))))
theorem okS_fit {N : Net} {s : Sta} (hl : N.ls.length ≤ 900 ∧ N.ss.length ≤ 900 ∧ N.ds.length ≤ 900) (ok : okS N s = true) : FitS s := by
  simp only [okS, Bool.and_eq_true] at ok
  have a := it_small (n := N.ls.length) (by omega) ok.1.1
  have b := it_small (n := N.ss.length) (by omega) ok.1.2
  have c := it_small (n := N.ds.length) (by omega) ok.2
  exact ⟨⟨fun x hx => by have := a.1 x hx; omega, by omega⟩, ⟨fun x hx => by have := b.1 x hx; omega, by omega⟩, ⟨fun x hx => by have := c.1 x hx; omega, by omega⟩⟩
section
variable {ns : List Int} {N : Net} {x4 x5 : Option D}
/-- the slots between two cells -/
def SC (ns : List Int) (N : Net) (x4 x5 : Option D) (ρ : VEnv) : Prop :=
  ∃ x3 x6 x7 x8 x9 x10 x11 x12 x13 x14 x15 x16 x17 x18, ρ = Ev ns N x3 x4 x5 x6 x7 x8 x9 x10 x11 x12 x13 x14 x15 x16 x17 x18
theorem cell_turn (hN : Fit N) (hl : N.ls.length ≤ 900 ∧ N.ss.length ≤ 900 ∧ N.ds.length ≤ 900) (c : Int) (ρ : VEnv) (h : SC ns N x4 x5 ρ) :
    ∃ ρ1 ρ2, gN 3 (.int c) ρ = .ok ρ1 ∧ cellB ρ1 = .ok (.nx ρ2) ∧ SC ns N x4 x5 ρ2 := by
  obtain ⟨x3, x6, x7, x8, x9, x10, x11, x12, x13, x14, x15, x16, x17, x18, rfl⟩ := h
  obtain ⟨s, e6, ok⟩ := state_ex c N hN
  have hs := okS_fit hl ok
  obtain ⟨vs, eD, b⟩ := draws_ex c [1000, 12] (by intro l hl; simp at hl; omega) (by rw [big_val]; simp)
  rcases b with _ | ⟨a0, b0, b⟩; rcases b with _ | ⟨a1, b1, b⟩; rcases b
  rename_i fa dr
  have cs : f_check_state [netD N, stD s] = .ok .none := by
    rw [cs_eq N s hN hs.c.2 hs.r.2 hs.f.2, ok]
    rfl
  have rp : ∀ ρ : VEnv, look ρ 1 = .ok (netD N) → look ρ 6 = .ok (stD s) → (eF fRepr (aC (eLst (aC (eV 1) (aC (eV 6) aN))) aN)) ρ = .ok (.str (nsD N s).shown) := fun ρ z1 z2 => eF1 (lst2 (a := eV 1) (b := eV 6) z1 z2) (repr_ns hN hs)
  let b : Bool := ((s.f.length : Int) == (N.ds.length : Int))
  let ρ4 : VEnv := Ev ns N (some (.int c)) x4 x5 (some (stD s)) (some (.str (nsD N s).shown)) (some (.bool b)) x9 x10 x11 x12 x13 x14 x15 x16 x17 x18
  have t1 : tB (e2 isNotNoneD (eF f_check_state (aC (eV 1) (aC (eV 6) aN))) (eC .none)) ρ4 = .ok false := tB_ev ((e2_ev (eF2 (x := netD N) (y := stD s) rfl rfl cs) rfl).trans rfl)
  have t2 : tNo (tTr (e1 (isiD "bool") (eV 8))) ρ4 = .ok false := by
    refine tNo_ev (b := true) ?_
    show (R.bind ((e1 (isiD "bool") (eV 8)) ρ4) truD) = _
    have : (e1 (isiD "bool") (eV 8)) ρ4 = .ok (.bool true) := by
      refine (e1_ev (x := .bool b) rfl).trans ?_
      rfl
    rw [this]
    rfl
  have t3 : tB (e2 neD (eV 8) (e2 eqD (eF fLen (aC (e2 ixD (eV 6) (eC (.int 2))) aN)) (eF fLen (aC (e2 ixD (eV 1) (eC (.int 3))) aN)))) ρ4 = .ok false := by
    have l1 : (eF fLen (aC (e2 ixD (eV 6) (eC (.int 2))) aN)) ρ4 = .ok (.int (s.f.length : Int)) := eF1 (x := tupI s.f) rfl (by show R.ok (PyData.int ((s.f.map PyData.int).length : Int)) = _; rw [List.length_map])
    have l2 : (eF fLen (aC (e2 ixD (eV 1) (eC (.int 3))) aN)) ρ4 = .ok (.int (N.ds.length : Int)) := eF1 (x := .list (N.ds.map ldD)) rfl (by rw [len_list, List.length_map])
    have := tB_ev ((e2_ev (f := neD) (a := eV 8) (x := .bool b) rfl ((e2_ev l1 l2).trans (eq_int _ _))).trans (ne_bool _ _))
    rw [this]
    simp [b]
  have t4 : tB (e2 neD (eF fRepr (aC (eLst (aC (eV 1) (aC (eV 6) aN))) aN)) (eV 7)) ρ4 = .ok false := by
    have := tB_ev ((e2_ev (f := neD) (b := eV 7) (rp ρ4 rfl rfl) rfl).trans (ne_str _ _))
    rw [this]
    simp
  obtain ⟨ρ', e, x11', x12', x13', x14', x15', x16', x17', x18', rfl⟩ := mem_loop (enc := fun k : Nat => .int (k : Int)) (g := gN 11) (b := partB) (S := SP ns N s fa dr (some (.int c)) x4 x5 (some (.str (nsD N s).shown)) (some (.bool b))) (List.range 3)
    (fun p hp ρ hρ => part_turn (by simpa using hp) hN hl hs ok (by omega) ρ hρ)
    (Ev ns N (some (.int c)) x4 x5 (some (stD s)) (some (.str (nsD N s).shown)) (some (.bool b)) (some (.list [.int fa, .int dr])) (some (.int fa)) x11 x12 x13 x14 x15 x16 x17 x18) ⟨_, _, _, _, _, _, _, _, rfl⟩
  have lp := (for_go (i := iRg1 (aC (eC (.int 3)) aN)) (g := gN 11) (b := partB) (ρ := Ev ns N (some (.int c)) x4 x5 (some (stD s)) (some (.str (nsD N s).shown)) (some (.bool b)) (some (.list [.int fa, .int dr])) (some (.int fa)) x11 x12 x13 x14 x15 x16 x17 x18) (iRg1_ev (n := 3) rfl (by decide)) (by rw [List.length_map, List.length_range, big_val]; decide)).trans e
  refine ⟨_, _, rfl, st_set (eF2 (x := .int c) (y := netD N) rfl rfl e6) (st_set (rp _ rfl rfl) (st_set (eF2 (x := netD N) (y := stD s) rfl rfl (full_eq N s)) (st_nx ((if_f ((tOr_f t1).trans ((tOr_f t2).trans ((tOr_f t3).trans t4)))).trans rfl) (st_set (eF2 (x := .int c) (y := .list (([1000, 12] : List Int).map .int)) rfl rfl eD) (st_set (d := .int fa) rfl lp))))), _, _, _, _, _, _, _, _, _, _, _, _, _, _, rfl⟩
end
theorem all_ev {e : EF} {ρ : VEnv} {n : Nat} (h : n ≤ 1000) (hl : 15 < ρ.length) (he : e (ρ.set 15 none) = .ok (.int (n : Int))) (he2 : e ρ = .ok (.int (n : Int))) : (eF fTuple (aC (eLc (iRg1 (aC e aN)) (gN 15) tYe (eV 15) [15]) aN)) ρ = .ok (tupI (((List.range n).filter fun _ => true).map fun k : Nat => (k : Int))) := by
  refine eF1 (x := .list (((List.range n).filter fun _ => true).map fun k : Nat => .int (k : Int))) ?_ (by rw [tupI, List.map_map]; rfl)
  refine lc_ev (enc := fun k : Nat => .int (k : Int)) (fun _ => true) (fun k : Nat => .int (k : Int)) (iRg1_ev he2 h) (by rw [List.length_range]; omega) fun k _ => ?_
  refine ⟨_, rfl, rfl, fun _ => ?_⟩
  show look (((wipeE ρ [15]).set 15 (some (.int (k : Int))))) 15 = _
  unfold look
  simp [wipeE, hl]
theorem iSeq_ev {e : EF} {ρ : VEnv} {xs : List D} (h : e ρ = .ok (.list xs)) : iSeq e ρ = .ok xs := by
  show (e ρ).bind _ = _
  rw [h]
  rfl
theorem plain (ns : List Int) (h : ns.length ≤ 63) : f_law [.list (ns.map .int)] = .ok (.bool true) := by
  obtain ⟨N, eN, n1, n2, l1, l2, l3, o1, o2, o3⟩ := net_ex (cellI ns 0) (cellI ns 1) 8 (by decide)
  have c0 : f_law_cell [.list (ns.map .int), .int 0] = .ok (.int (cellI ns 0)) := cell_eq ns 0
  have c1 : f_law_cell [.list (ns.map .int), .int 1] = .ok (.int (cellI ns 1)) := cell_eq ns 1
  have fN : Fit N := ⟨by omega, fun x hx => fit_ln n2 (List.all_eq_true.mp o1 x hx), fun x hx => fit_sn n2 (List.all_eq_true.mp o2 x hx), fun x hx => fit_ld n2 (List.all_eq_true.mp o3 x hx), by omega, by omega, by omega⟩
  have hl : N.ls.length ≤ 900 ∧ N.ss.length ≤ 900 ∧ N.ds.length ≤ 900 := by omega
  let dk : Sta := ⟨[], [], []⟩
  let ev : Sta := ⟨((List.range N.ls.length).filter fun _ => true).map fun k : Nat => (k : Int), ((List.range N.ss.length).filter fun _ => true).map fun k : Nat => (k : Int), ((List.range N.ds.length).filter fun _ => true).map fun k : Nat => (k : Int)⟩
  have okd : okS N dk = true := rfl
  have oke : okS N ev = true := by simp only [okS, ev, okI_range, Bool.and_self]
  have fd := okS_fit hl okd
  have fe := okS_fit hl oke
  have cd : f_check_state [netD N, stD dk] = .ok .none := by
    rw [cs_eq N dk fN fd.c.2 fd.r.2 fd.f.2, okd]; rfl
  have ce : f_check_state [netD N, stD ev] = .ok .none := by
    rw [cs_eq N ev fN fe.c.2 fe.r.2 fe.f.2, oke]; rfl
  have ue : f_is_full [netD N, stD ev] = .ok (.bool true) := by
    have ft : ∀ l : List Nat, l.filter (fun _ => true) = l := fun l => List.filter_eq_self.mpr (by simp)
    rw [full_eq]
    simp [ev, ft]
  have ud : f_is_full [netD N, stD dk] = .ok (.bool ((0 : Int) == (N.ds.length : Int))) := full_eq N dk
  let cells : List Int := [0, 1] ++ cutA ns (some 2) (some 8)
  have cl : cells.length ≤ 1000 := by
    have : (cutA ns (some 2) (some 8)).length ≤ 63 := by
      unfold cutA
      rw [List.length_take, List.length_drop]
      omega
    simp only [cells, List.length_append, List.length_cons, List.length_nil]
    omega
  apply fn_rt
  show b_law [some (ilD ns), none, none, none, none, none, none, none, none, none, none, none, none, none, none, none, none, none, none] = _
  show (sSeq (sSet 1 _) (sSeq (sSet 2 _) (sSeq (sFor _ (gN 3) cellB) _))) _ = _
  have L : ∀ (ρ : VEnv) (k : Nat) (xs : List D), look ρ 1 = .ok (netD N) → ixD (netD N) (.int (k : Int)) = .ok (.list xs) → (eF fLen (aC (Vx.e2 ixD (eV 1) (eC (.int (k : Int)))) aN)) ρ = .ok (.int (xs.length : Int)) := fun ρ k xs z y =>
    eF1 ((e2_ev (x := netD N) (y := .int (k : Int)) z rfl).trans y) (len_list _)
  refine st_set (d := netD N) (eF3 (eF2 (x := ilD ns) (y := .int 0) rfl rfl c0) (eF2 (x := ilD ns) (y := .int 1) rfl rfl c1) rfl eN) ?_
  refine st_set (d := cD N) ?_ ?_
  · have := lst3 (L [some (ilD ns), some (netD N), none, none, none, none, none, none, none, none, none, none, none, none, none, none, none, none, none] 1 (N.ls.map lnD) rfl rfl) (L _ 2 (N.ss.map snD) rfl rfl) (L _ 3 (N.ds.map ldD) rfl rfl)
    rw [List.length_map, List.length_map, List.length_map] at this
    exact this
  obtain ⟨ρ', e, x3, x6, x7, x8, x9, x10, x11, x12, x13, x14, x15, x16, x17, x18, rfl⟩ := mem_loop (enc := PyData.int) (g := gN 3) (b := cellB) (S := SC ns N none none) cells (fun c _ ρ hρ => cell_turn fN hl c ρ hρ)
    (Ev ns N none none none none none none none none none none none none none none none none) ⟨_, _, _, _, _, _, _, _, _, _, _, _, _, _, rfl⟩
  refine st_for (ds := cells.map .int) (ρ' := Ev ns N x3 none none x6 x7 x8 x9 x10 x11 x12 x13 x14 x15 x16 x17 x18) ?_ (by rw [List.length_map]; omega) e ?_
  · have : (e2 catD (eLst (aC (eC (.int 0)) (aC (eC (.int 1)) aN))) (eSl (eV 0) (oS (eC (.int 2))) (oS (eC (.int 8))))) (Ev ns N none none none none none none none none none none none none none none none none) = .ok (ilD cells) := by
      refine cat_il (xs := [0, 1]) (ys := cutA ns (some 2) (some 8)) (two_il rfl rfl) ?_ (by simp only [cells, List.length_append] at cl; exact cl)
      show R.ok (PyData.list (cutL (ns.map .int) (some 2) (some 8))) = _
      rw [cut_map]
      rfl
    exact iSeq_ev this
  refine st_set (d := stD dk) rfl ?_
  refine st_set (d := stD ev) (tup3 (all_ev (n := N.ls.length) (by omega) (by simp) rfl rfl) (all_ev (n := N.ss.length) (by omega) (by simp) rfl rfl) (all_ev (n := N.ds.length) (by omega) (by simp) rfl rfl)) ?_
  refine ret_ev ((an_t (nn_ev (eF2 (x := netD N) (y := stD dk) rfl rfl cd))).trans ((an_t (nn_ev (eF2 (x := netD N) (y := stD ev) rfl rfl ce))).trans ((an_t ((e2_ev (eF2 (x := netD N) (y := stD ev) rfl rfl ue) rfl).trans rfl)).trans ?_)))
  refine (e2_ev (eF2 (x := netD N) (y := stD dk) rfl rfl ud) ((e2_ev (x := .int (N.ds.length : Int)) (y := .int 0) rfl rfl).trans (eq_int _ _))).trans ((eq_bool _ _).trans ?_)
  have : ((0 : Int) == (N.ds.length : Int)) = ((N.ds.length : Int) == 0) := by
    rw [Bool.eq_iff_iff, beq_iff_eq, beq_iff_eq]
    exact ⟨fun h => h.symm, fun h => h.symm⟩
  rw [this]
  simp
end Lw

set_option Elab.async false
set_option linter.all false
set_option maxRecDepth 100000
set_option maxHeartbeats 4000000
namespace Lw
open PySem L2 PyProof.Rows Vx
theorem all_mk {l : PySem.W.OpenLaw} {w : World} {K : PySem.W.Frag} {h : Heap} {mg : Str → Option Value} {fa : Addr} (X : K.In h) (G : h.Ns mainGlobals mg) (hfa : mg "law" = some (.ref fa))
    {f0 : Addr} {od0 an0 : Option Addr} {sl0 : Array (Option Value)} {oc0 kV0 dc0 pm0 cd0 ct0 : Value}
    {f1 : Addr} {od1 an1 : Option Addr} {sl1 : Array (Option Value)} {oc1 kV1 dc1 pm1 cd1 ct1 : Value}
    {f2 : Addr} {od2 an2 : Option Addr} {sl2 : Array (Option Value)} {oc2 kV2 dc2 pm2 cd2 ct2 : Value}
    {f3 : Addr} {od3 an3 : Option Addr} {sl3 : Array (Option Value)} {oc3 kV3 dc3 pm3 cd3 ct3 : Value}
    {f4 : Addr} {od4 an4 : Option Addr} {sl4 : Array (Option Value)} {oc4 kV4 dc4 pm4 cd4 ct4 : Value}
    {f5 : Addr} {od5 an5 : Option Addr} {sl5 : Array (Option Value)} {oc5 kV5 dc5 pm5 cd5 ct5 : Value}
    {f6 : Addr} {od6 an6 : Option Addr} {sl6 : Array (Option Value)} {oc6 kV6 dc6 pm6 cd6 ct6 : Value}
    {f7 : Addr} {od7 an7 : Option Addr} {sl7 : Array (Option Value)} {oc7 kV7 dc7 pm7 cd7 ct7 : Value}
    {f8 : Addr} {od8 an8 : Option Addr} {sl8 : Array (Option Value)} {oc8 kV8 dc8 pm8 cd8 ct8 : Value}
    {f9 : Addr} {od9 an9 : Option Addr} {sl9 : Array (Option Value)} {oc9 kV9 dc9 pm9 cd9 ct9 : Value}
    {C_LightError : Addr}
    {C_BadNet : Addr}
    {C_BadState : Addr}
    {C_OutOfRange : Addr}
    (a0 : PySem.W.nsIn K mainGlobals "check_indexes" = some (some (.ref f0))) (l0 : K.lookup f0 = some ⟨oc0, od0, .func (PySem.W.fnOf "check_indexes" "check_indexes" (defArgs s_check_indexes) (defBody s_check_indexes) (defScope s_check_indexes) .none kV0 dc0 pm0 an0 cd0 ct0), sl0⟩) (c0 : PySem.W.codeIn K cd0 "check_indexes" = true) (k0 : PySem.W.keepIn K (.ref f0) = true)
    (a1 : PySem.W.nsIn K mainGlobals "check_state" = some (some (.ref f1))) (l1 : K.lookup f1 = some ⟨oc1, od1, .func (PySem.W.fnOf "check_state" "check_state" (defArgs s_check_state) (defBody s_check_state) (defScope s_check_state) .none kV1 dc1 pm1 an1 cd1 ct1), sl1⟩) (c1 : PySem.W.codeIn K cd1 "check_state" = true) (k1 : PySem.W.keepIn K (.ref f1) = true)
    (a2 : PySem.W.nsIn K mainGlobals "is_full" = some (some (.ref f2))) (l2 : K.lookup f2 = some ⟨oc2, od2, .func (PySem.W.fnOf "is_full" "is_full" (defArgs s_is_full) (defBody s_is_full) (defScope s_is_full) .none kV2 dc2 pm2 an2 cd2 ct2), sl2⟩) (c2 : PySem.W.codeIn K cd2 "is_full" = true) (k2 : PySem.W.keepIn K (.ref f2) = true)
    (a3 : PySem.W.nsIn K mainGlobals "_law_cell" = some (some (.ref f3))) (l3 : K.lookup f3 = some ⟨oc3, od3, .func (PySem.W.fnOf "_law_cell" "_law_cell" (defArgs s_law_cell) (defBody s_law_cell) (defScope s_law_cell) .none kV3 dc3 pm3 an3 cd3 ct3), sl3⟩) (c3 : PySem.W.codeIn K cd3 "_law_cell" = true) (k3 : PySem.W.keepIn K (.ref f3) = true)
    (a4 : PySem.W.nsIn K mainGlobals "_law_draws" = some (some (.ref f4))) (l4 : K.lookup f4 = some ⟨oc4, od4, .func (PySem.W.fnOf "_law_draws" "_law_draws" (defArgs s_law_draws) (defBody s_law_draws) (defScope s_law_draws) .none kV4 dc4 pm4 an4 cd4 ct4), sl4⟩) (c4 : PySem.W.codeIn K cd4 "_law_draws" = true) (k4 : PySem.W.keepIn K (.ref f4) = true)
    (a5 : PySem.W.nsIn K mainGlobals "_law_net" = some (some (.ref f5))) (l5 : K.lookup f5 = some ⟨oc5, od5, .func (PySem.W.fnOf "_law_net" "_law_net" (defArgs s_law_net) (defBody s_law_net) (defScope s_law_net) .none kV5 dc5 pm5 an5 cd5 ct5), sl5⟩) (c5 : PySem.W.codeIn K cd5 "_law_net" = true) (k5 : PySem.W.keepIn K (.ref f5) = true)
    (a6 : PySem.W.nsIn K mainGlobals "_law_some" = some (some (.ref f6))) (l6 : K.lookup f6 = some ⟨oc6, od6, .func (PySem.W.fnOf "_law_some" "_law_some" (defArgs s_law_some) (defBody s_law_some) (defScope s_law_some) .none kV6 dc6 pm6 an6 cd6 ct6), sl6⟩) (c6 : PySem.W.codeIn K cd6 "_law_some" = true) (k6 : PySem.W.keepIn K (.ref f6) = true)
    (a7 : PySem.W.nsIn K mainGlobals "_law_state" = some (some (.ref f7))) (l7 : K.lookup f7 = some ⟨oc7, od7, .func (PySem.W.fnOf "_law_state" "_law_state" (defArgs s_law_state) (defBody s_law_state) (defScope s_law_state) .none kV7 dc7 pm7 an7 cd7 ct7), sl7⟩) (c7 : PySem.W.codeIn K cd7 "_law_state" = true) (k7 : PySem.W.keepIn K (.ref f7) = true)
    (a8 : PySem.W.nsIn K mainGlobals "_law_refused" = some (some (.ref f8))) (l8 : K.lookup f8 = some ⟨oc8, od8, .func (PySem.W.fnOf "_law_refused" "_law_refused" (defArgs s_law_refused) (defBody s_law_refused) (defScope s_law_refused) .none kV8 dc8 pm8 an8 cd8 ct8), sl8⟩) (c8 : PySem.W.codeIn K cd8 "_law_refused" = true) (k8 : PySem.W.keepIn K (.ref f8) = true)
    (a9 : PySem.W.nsIn K mainGlobals "law" = some (some (.ref f9))) (l9 : K.lookup f9 = some ⟨oc9, od9, .func (PySem.W.fnOf "law" "law" (defArgs s_law) (defBody s_law) (defScope s_law) .none kV9 dc9 pm9 an9 cd9 ct9), sl9⟩) (c9 : PySem.W.codeIn K cd9 "law" = true) (k9 : PySem.W.keepIn K (.ref f9) = true)
    (z_ValueError : PySem.W.nsIn K mainGlobals "ValueError" = some none)
    (z_abs : PySem.W.nsIn K mainGlobals "abs" = some none)
    (z_bool : PySem.W.nsIn K mainGlobals "bool" = some none)
    (z_enumerate : PySem.W.nsIn K mainGlobals "enumerate" = some none)
    (z_int : PySem.W.nsIn K mainGlobals "int" = some none)
    (z_isinstance : PySem.W.nsIn K mainGlobals "isinstance" = some none)
    (z_len : PySem.W.nsIn K mainGlobals "len" = some none)
    (z_list : PySem.W.nsIn K mainGlobals "list" = some none)
    (z_max : PySem.W.nsIn K mainGlobals "max" = some none)
    (z_min : PySem.W.nsIn K mainGlobals "min" = some none)
    (z_range : PySem.W.nsIn K mainGlobals "range" = some none)
    (z_repr : PySem.W.nsIn K mainGlobals "repr" = some none)
    (z_reversed : PySem.W.nsIn K mainGlobals "reversed" = some none)
    (z_tuple : PySem.W.nsIn K mainGlobals "tuple" = some none)
    (g_LightError : PySem.W.nsIn K mainGlobals "LightError" = some (some (.ref C_LightError))) (x_LightError : PySem.W.excIn K C_LightError [.type "ValueError", .type "Exception", .type "BaseException", .type "object"] "ValueError.__new__" = true) (k_LightError : PySem.W.keepIn K (.ref C_LightError) = true) (b_LightError : PySem.W.subIn K (.ref C_LightError) (.type "BaseException") = some true) (t_LightError : PySem.W.typeIn K (.ref C_LightError) = some (.type "type")) (h_LightError : PySem.W.hasDictIn K C_LightError = true)
    (g_BadNet : PySem.W.nsIn K mainGlobals "BadNet" = some (some (.ref C_BadNet))) (x_BadNet : PySem.W.excIn K C_BadNet [.type "ValueError", .type "Exception", .type "BaseException", .type "object"] "ValueError.__new__" = true) (k_BadNet : PySem.W.keepIn K (.ref C_BadNet) = true) (b_BadNet : PySem.W.subIn K (.ref C_BadNet) (.type "BaseException") = some true) (t_BadNet : PySem.W.typeIn K (.ref C_BadNet) = some (.type "type")) (h_BadNet : PySem.W.hasDictIn K C_BadNet = true)
    (g_BadState : PySem.W.nsIn K mainGlobals "BadState" = some (some (.ref C_BadState))) (x_BadState : PySem.W.excIn K C_BadState [.type "ValueError", .type "Exception", .type "BaseException", .type "object"] "ValueError.__new__" = true) (k_BadState : PySem.W.keepIn K (.ref C_BadState) = true) (b_BadState : PySem.W.subIn K (.ref C_BadState) (.type "BaseException") = some true) (t_BadState : PySem.W.typeIn K (.ref C_BadState) = some (.type "type")) (h_BadState : PySem.W.hasDictIn K C_BadState = true)
    (g_OutOfRange : PySem.W.nsIn K mainGlobals "OutOfRange" = some (some (.ref C_OutOfRange))) (x_OutOfRange : PySem.W.excIn K C_OutOfRange [.type "ValueError", .type "Exception", .type "BaseException", .type "object"] "ValueError.__new__" = true) (k_OutOfRange : PySem.W.keepIn K (.ref C_OutOfRange) = true) (b_OutOfRange : PySem.W.subIn K (.ref C_OutOfRange) (.type "BaseException") = some true) (t_OutOfRange : PySem.W.typeIn K (.ref C_OutOfRange) = some (.type "type")) (h_OutOfRange : PySem.W.hasDictIn K C_OutOfRange = true)
    (e1_BadState : PySem.W.findIn K (.ref C_BadState) "__getattribute__" = some (some (.builtin "BaseException.__getattribute__"))) (e2_BadState : PySem.W.findIn K (.ref C_BadState) "__getattr__" = some none) (e3_BadState : PySem.W.findIn K (.ref C_BadState) "__class__" = some (some (.builtin "object.__class__"))) (e4_BadState : PySem.W.specialIn K (.builtin "object.__class__") "__get__" = some (some (.builtin "getset_descriptor.__get__"))) (e5_BadState : PySem.W.takesIn K (.builtin "object.__class__") = some true) (e6_BadState : PySem.W.mroIn K C_BadState (.type "object") = some true) (e7_BadState : PySem.W.subIn K (.ref C_BadState) (.ref C_BadState) = some true)
    (s_BadState_BadNet : PySem.W.subIn K (.ref C_BadState) (.ref C_BadNet) = some false)
    (n_BadState_BadNet : (Value.ref C_BadState == Value.ref C_BadNet) = false)
    (s_BadState_LightError : PySem.W.subIn K (.ref C_BadState) (.ref C_LightError) = some true)
    (s_BadState_OutOfRange : PySem.W.subIn K (.ref C_BadState) (.ref C_OutOfRange) = some false)
    (n_BadState_OutOfRange : (Value.ref C_BadState == Value.ref C_OutOfRange) = false)
    (s_BadState_ValueError : PySem.W.subIn K (.ref C_BadState) (.type "ValueError") = some true) :
    ∃ fd : FuncData, (∀ (s : Shared) (v : Value), BindsTo s fd ⟨[v], []⟩ [("_law_script", v)]) ∧ ∀ base : Heap, K.In base → base.Ns mainGlobals mg → FnG l.prog w K mg base 4 fa fd ["_law_script"] (spLaw K) := by
  have hnob : ∀ x ∈ (["ValueError", "abs", "bool", "enumerate", "int", "isinstance", "len", "list", "max", "min", "range", "repr", "reversed", "tuple"] : List Str), mg x = none := by
    intro x hx
    simp only [List.mem_cons, List.not_mem_nil, or_false] at hx
    rcases hx with rfl | rfl | rfl | rfl | rfl | rfl | rfl | rfl | rfl | rfl | rfl | rfl | rfl | rfl
    · exact PySem.W.mg_none_of X G z_ValueError
    · exact PySem.W.mg_none_of X G z_abs
    · exact PySem.W.mg_none_of X G z_bool
    · exact PySem.W.mg_none_of X G z_enumerate
    · exact PySem.W.mg_none_of X G z_int
    · exact PySem.W.mg_none_of X G z_isinstance
    · exact PySem.W.mg_none_of X G z_len
    · exact PySem.W.mg_none_of X G z_list
    · exact PySem.W.mg_none_of X G z_max
    · exact PySem.W.mg_none_of X G z_min
    · exact PySem.W.mg_none_of X G z_range
    · exact PySem.W.mg_none_of X G z_repr
    · exact PySem.W.mg_none_of X G z_reversed
    · exact PySem.W.mg_none_of X G z_tuple
  have d0 : Dn K mg "check_indexes" "check_indexes" s_check_indexes ["indexes", "count"] := dn_mk (PySem.W.mg_of X G a0) l0 c0 k0 fun _ _ _ _ _ _ us hl => match us, hl with | [_, _], _ => rfl
  have d1 : Dn K mg "check_state" "check_state" s_check_state ["net", "state"] := dn_mk (PySem.W.mg_of X G a1) l1 c1 k1 fun _ _ _ _ _ _ us hl => match us, hl with | [_, _], _ => rfl
  have d2 : Dn K mg "is_full" "is_full" s_is_full ["net", "state"] := dn_mk (PySem.W.mg_of X G a2) l2 c2 k2 fun _ _ _ _ _ _ us hl => match us, hl with | [_, _], _ => rfl
  have d3 : Dn K mg "_law_cell" "_law_cell" s_law_cell ["_law_script", "_law_k"] := dn_mk (PySem.W.mg_of X G a3) l3 c3 k3 fun _ _ _ _ _ _ us hl => match us, hl with | [_, _], _ => rfl
  have d4 : Dn K mg "_law_draws" "_law_draws" s_law_draws ["_law_cell_here", "_law_limits"] := dn_mk (PySem.W.mg_of X G a4) l4 c4 k4 fun _ _ _ _ _ _ us hl => match us, hl with | [_, _], _ => rfl
  have d5 : Dn K mg "_law_net" "_law_net" s_law_net ["_law_cell_here", "_law_more", "_law_most"] := dn_mk (PySem.W.mg_of X G a5) l5 c5 k5 fun _ _ _ _ _ _ us hl => match us, hl with | [_, _, _], _ => rfl
  have d6 : Dn K mg "_law_some" "_law_some" s_law_some ["_law_cell_here", "_law_count", "_law_often"] := dn_mk (PySem.W.mg_of X G a6) l6 c6 k6 fun _ _ _ _ _ _ us hl => match us, hl with | [_, _, _], _ => rfl
  have d7 : Dn K mg "_law_state" "_law_state" s_law_state ["_law_cell_here", "_law_net_here"] := dn_mk (PySem.W.mg_of X G a7) l7 c7 k7 fun _ _ _ _ _ _ us hl => match us, hl with | [_, _], _ => rfl
  have d8 : Dn K mg "_law_refused" "_law_refused" s_law_refused ["_law_net_here", "_law_state_here"] := dn_mk (PySem.W.mg_of X G a8) l8 c8 k8 fun _ _ _ _ _ _ us hl => match us, hl with | [_, _], _ => rfl
  have d9 : Dn K mg "law" "law" s_law ["_law_script"] := dn_mk (PySem.W.mg_of X G a9) l9 c9 k9 fun _ _ _ _ _ _ us hl => match us, hl with | [_], _ => rfl
  have q_LightError : ExF K mg "LightError" C_LightError := ⟨PySem.W.mg_of X G g_LightError, x_LightError, k_LightError, b_LightError, t_LightError⟩
  have q_BadNet : ExF K mg "BadNet" C_BadNet := ⟨PySem.W.mg_of X G g_BadNet, x_BadNet, k_BadNet, b_BadNet, t_BadNet⟩
  have q_BadState : ExF K mg "BadState" C_BadState := ⟨PySem.W.mg_of X G g_BadState, x_BadState, k_BadState, b_BadState, t_BadState⟩
  have q_OutOfRange : ExF K mg "OutOfRange" C_OutOfRange := ⟨PySem.W.mg_of X G g_OutOfRange, x_OutOfRange, k_OutOfRange, b_OutOfRange, t_OutOfRange⟩
  let W : Vp := ⟨⟨0, none⟩, fun n => [C_LightError, C_BadNet, C_BadState, C_OutOfRange, 0, 0, 0].getD n 0⟩
  have B : Bs K mg W := {
    nob := hnob
    x_BadState := q_BadState
    x_OutOfRange := q_OutOfRange
    x_BadNet := q_BadNet
    x_LightError := q_LightError
    c_BadState := ⟨e1_BadState, e2_BadState, b_BadState, h_BadState, e3_BadState, e4_BadState, e5_BadState, e6_BadState⟩
    e_BadState_BadState := PySem.W.exm_ref b_BadState h_BadState t_BadState e7_BadState
    i_BadState_BadNet := kit_ref t_BadNet h_BadNet s_BadState_BadNet (.inr n_BadState_BadNet)
    i_BadState_LightError := kit_ref t_LightError h_LightError s_BadState_LightError (.inl rfl)
    i_BadState_OutOfRange := kit_ref t_OutOfRange h_OutOfRange s_BadState_OutOfRange (.inr n_BadState_OutOfRange)
    i_BadState_ValueError := kit_vE s_BadState_ValueError }
  have e := hfa.symm.trans (PySem.W.mg_of X G a9)
  cases e
  refine ⟨PySem.W.fnOf "law" "law" (defArgs s_law) (defBody s_law) (defScope s_law) .none kV9 dc9 pm9 an9 cd9 ct9, fun s v => .of_eq rfl, fun base _ _ => ?_⟩
  have c_check_indexes := ok_check_indexes (P := l.prog) (w := w) (base := base) B rfl d0
  have c_check_state := ok_check_state (P := l.prog) (w := w) (base := base) B rfl d1 c_check_indexes
  have c_is_full := ok_is_full (P := l.prog) (w := w) (base := base) B rfl d2
  have c_law_cell := ok_law_cell (P := l.prog) (w := w) (base := base) B rfl d3
  have c_law_draws := ok_law_draws (P := l.prog) (w := w) (base := base) B rfl d4
  have c_law_net := ok_law_net (P := l.prog) (w := w) (base := base) B rfl d5 c_law_draws
  have c_law_some := ok_law_some (P := l.prog) (w := w) (base := base) B rfl d6 c_law_draws
  have c_law_state := ok_law_state (P := l.prog) (w := w) (base := base) B rfl d7 c_law_draws c_law_some
  have c_law_refused := ok_law_refused (P := l.prog) (w := w) (base := base) B rfl d8 c_check_state
  have r_law := ok_law (P := l.prog) (w := w) (base := base) (mg := mg) B rfl (fun_mk (st := s_law) l9 c9 k9) c_check_state c_is_full c_law_cell c_law_draws c_law_net c_law_state c_law_refused
  exact law_end r_law fun ns hl => plain ns hl
theorem walk {l : PySem.W.OpenLaw} {q : Program} {loose : List Str} {XP : (Str → Option Value) → Heap → Prop} {YP : World → Heap → Prop} {d : DefRec} {K : Params → PySem.W.Frag} (hn : l.most = some 63) (hdf : d.params.defaults = []) (hY : ∀ (w : World) (h : Heap), YP w h → (K w.params).In h)
    (F : ∀ (w : World) (mg : Str → Option Value) (fa : Addr) (h : Heap), (K w.params).In h → h.Ns mainGlobals mg → mg d.name = some (.ref fa) →
      ∃ fd : FuncData, (∀ (s : Shared) (u : Value), BindsTo s fd ⟨[u], []⟩ [("_law_script", u)]) ∧ ∀ base : Heap, (K w.params).In base → base.Ns mainGlobals mg → FnG l.prog w (K w.params) mg base 4 fa fd ["_law_script"] (spLaw (K w.params))) :
    PySem.W.WalkO q loose XP YP l.row.toRowW d [] (fun f vs => PySem.call f vs) :=
  walkG hn hdf ⟨rfl, by decide, by decide⟩ hY F fun _ _ a ns hl hs => ⟨a, ns, rfl, hs, hl, fun _ => rfl⟩
end Lw
open PySem PySem.W PyProof.Rows
set_option maxRecDepth 100000 in
set_option maxHeartbeats 0 in
theorem PySem.Challenge.cw_relume_k02_states_checked_holds : PySem.Challenge.rw_relume_k02_states_checked.Holds := by
  w_on; o_law; k_head; (case hw => w_witness2)
  k_fill
  refine Lw.walk (l := PySem.Challenge.rw_relume_k02_states_checked) rfl rfl (fun w h Y => PySem.W.kIn_of Y) ?F
  case F =>
    intro w mg fa h KX G hmg
    refine' Lw.all_mk KX G hmg ?a0 ?l0 ?c0 ?k0 ?a1 ?l1 ?c1 ?k1 ?a2 ?l2 ?c2 ?k2 ?a3 ?l3 ?c3 ?k3 ?a4 ?l4 ?c4 ?k4 ?a5 ?l5 ?c5 ?k5 ?a6 ?l6 ?c6 ?k6 ?a7 ?l7 ?c7 ?k7 ?a8 ?l8 ?c8 ?k8 ?a9 ?l9 ?c9 ?k9 ?z_ValueError ?z_abs ?z_bool ?z_enumerate ?z_int ?z_isinstance ?z_len ?z_list ?z_max ?z_min ?z_range ?z_repr ?z_reversed ?z_tuple ?g_LightError ?x_LightError ?k_LightError ?b_LightError ?t_LightError ?h_LightError ?g_BadNet ?x_BadNet ?k_BadNet ?b_BadNet ?t_BadNet ?h_BadNet ?g_BadState ?x_BadState ?k_BadState ?b_BadState ?t_BadState ?h_BadState ?g_OutOfRange ?x_OutOfRange ?k_OutOfRange ?b_OutOfRange ?t_OutOfRange ?h_OutOfRange ?e1_BadState ?e2_BadState ?e3_BadState ?e4_BadState ?e5_BadState ?e6_BadState ?e7_BadState ?s_BadState_BadNet ?n_BadState_BadNet ?s_BadState_LightError ?s_BadState_OutOfRange ?n_BadState_OutOfRange ?s_BadState_ValueError
    (case a0 => k_is)
    (case l0 => k_is)
    (case c0 => k_is)
    (case k0 => k_is)
    (case a1 => k_is)
    (case l1 => k_is)
    (case c1 => k_is)
    (case k1 => k_is)
    (case a2 => k_is)
    (case l2 => k_is)
    (case c2 => k_is)
    (case k2 => k_is)
    (case a3 => k_is)
    (case l3 => k_is)
    (case c3 => k_is)
    (case k3 => k_is)
    (case a4 => k_is)
    (case l4 => k_is)
    (case c4 => k_is)
    (case k4 => k_is)
    (case a5 => k_is)
    (case l5 => k_is)
    (case c5 => k_is)
    (case k5 => k_is)
    (case a6 => k_is)
    (case l6 => k_is)
    (case c6 => k_is)
    (case k6 => k_is)
    (case a7 => k_is)
    (case l7 => k_is)
    (case c7 => k_is)
    (case k7 => k_is)
    (case a8 => k_is)
    (case l8 => k_is)
    (case c8 => k_is)
    (case k8 => k_is)
    (case a9 => k_is)
    (case l9 => k_is)
    (case c9 => k_is)
    (case k9 => k_is)
    (case z_ValueError => k_is)
    (case z_abs => k_is)
    (case z_bool => k_is)
    (case z_enumerate => k_is)
    (case z_int => k_is)
    (case z_isinstance => k_is)
    (case z_len => k_is)
    (case z_list => k_is)
    (case z_max => k_is)
    (case z_min => k_is)
    (case z_range => k_is)
    (case z_repr => k_is)
    (case z_reversed => k_is)
    (case z_tuple => k_is)
    (case g_LightError => k_is)
    (case x_LightError => k_exc)
    (case k_LightError => k_is)
    (case b_LightError => k_is)
    (case t_LightError => k_is)
    (case h_LightError => k_is)
    (case g_BadNet => k_is)
    (case x_BadNet => k_exc)
    (case k_BadNet => k_is)
    (case b_BadNet => k_is)
    (case t_BadNet => k_is)
    (case h_BadNet => k_is)
    (case g_BadState => k_is)
    (case x_BadState => k_exc)
    (case k_BadState => k_is)
    (case b_BadState => k_is)
    (case t_BadState => k_is)
    (case h_BadState => k_is)
    (case g_OutOfRange => k_is)
    (case x_OutOfRange => k_exc)
    (case k_OutOfRange => k_is)
    (case b_OutOfRange => k_is)
    (case t_OutOfRange => k_is)
    (case h_OutOfRange => k_is)
    (case e1_BadState => k_is)
    (case e2_BadState => k_is)
    (case e3_BadState => k_is)
    (case e4_BadState => k_is)
    (case e5_BadState => k_is)
    (case e6_BadState => k_is)
    (case e7_BadState => k_is)
    (case s_BadState_BadNet => k_is)
    (case n_BadState_BadNet => decide)
    (case s_BadState_LightError => k_is)
    (case s_BadState_OutOfRange => k_is)
    (case n_BadState_OutOfRange => decide)
    (case s_BadState_ValueError => k_is)
