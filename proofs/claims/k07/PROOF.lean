import PyProof.Rows.All
import Wide.All
import OpenK.AllK
import Wide.FinOn
import HandS.ForMost
import HandS.ForExc
import HandS.Walk
import HandS.Gcd
import HandS.Wide
import HandS.SortInts
import HandS.IsInst
import HandS.TupLe
import HandS.Rev
import HandS.Conv
import KE.GoesEnum
import PyProof.ReprRoads
import HandS.Deep
import HandS.Dict
import HandS.Style
import HandS.WideBits
import HandS.ExcIs
import HandS.TupAny
import PyProof.TupleOfSeq
import HandS.Iter
import PySem.Challenge.RW_relume_k07_conditions_solved
set_option Elab.async false
set_option linter.all false
/-! A1: plain data: how a computation ends, what is reckoned, kinds of values. No heap. -/
namespace Tx
open PySem

abbrev D := PyData

/-- how a computation ends: a value, an exception of the program (by number), or nothing that is served -/
inductive R (α : Type) where
  | ok (a : α)
  | ex (c : Nat)
  | no

namespace R
variable {α β γ : Type}
def bind (x : R α) (f : α → R β) : R β :=
  match x with
  | .ok a => f a
  | .ex c => .ex c
  | .no => .no
def map (f : α → β) (x : R α) : R β :=
  match x with
  | .ok a => .ok (f a)
  | .ex c => .ex c
  | .no => .no
@[simp] theorem ok_bind (a : α) (f : α → R β) : (R.ok a).bind f = f a := rfl
@[simp] theorem ex_bind (c : Nat) (f : α → R β) : (R.ex c : R α).bind f = .ex c := rfl
@[simp] theorem no_bind (f : α → R β) : (R.no : R α).bind f = .no := rfl
@[simp] theorem ok_map (a : α) (f : α → β) : (R.ok a).map f = .ok (f a) := rfl
@[simp] theorem ex_map (c : Nat) (f : α → β) : (R.ex c : R α).map f = .ex c := rfl
@[simp] theorem no_map (f : α → β) : (R.no : R α).map f = .no := rfl
theorem bind_assoc (x : R α) (f : α → R β) (g : β → R γ) : (x.bind f).bind g = x.bind fun a => (f a).bind g := by cases x <;> rfl
theorem map_bind (x : R α) (f : α → β) (g : β → R γ) : (x.map f).bind g = x.bind fun a => g (f a) := by cases x <;> rfl
theorem bind_map (x : R α) (f : α → R β) (g : β → γ) : (x.bind f).map g = x.bind fun a => (f a).map g := by cases x <;> rfl
theorem map_map (x : R α) (f : α → β) (g : β → γ) : (x.map f).map g = x.map fun a => g (f a) := by cases x <;> rfl
theorem map_id' (x : R α) : (x.map fun a => a) = x := by cases x <;> rfl
theorem bind_eq_ok {x : R α} {f : α → R β} {b : β} : x.bind f = .ok b ↔ ∃ a, x = .ok a ∧ f a = .ok b := by
  cases x with
  | ok a => exact ⟨(fun h => ⟨a, rfl, h⟩), (fun ⟨a', e, h⟩ => by cases e; exact h)⟩
  | ex c => exact ⟨(fun h => by cases h), (fun ⟨a', e, h⟩ => by cases e)⟩
  | no => exact ⟨(fun h => by cases h), (fun ⟨a', e, h⟩ => by cases e)⟩
theorem bind_congr {x : R α} {f g : α → R β} (h : ∀ a, x = .ok a → f a = g a) : x.bind f = x.bind g := by
  cases x with
  | ok a => exact h a rfl
  | ex c => rfl
  | no => rfl
theorem bind_of {x : R α} {a : α} (h : x = .ok a) (f : α → R β) : x.bind f = f a := by rw [h]; rfl
end R

/-! ### kinds of values -/
class En (α : Type) where
  en : α → D
open En
/-- a tuple of any length -/
structure Tu (α : Type) where
  l : List α
  deriving DecidableEq
structure T3 (α β γ : Type) where
  a : α
  b : β
  c : γ
  deriving DecidableEq
structure T4 (α β γ δ : Type) where
  a : α
  b : β
  c : γ
  d : δ
  deriving DecidableEq
structure T5 (α β γ δ ε : Type) where
  a : α
  b : β
  c : γ
  d : δ
  e : ε
  deriving DecidableEq
/-- a dict, its pairs in order -/
structure Dc (κ α : Type) where
  l : List (κ × α)
  deriving DecidableEq
/-- an exception that is handled, by its number -/
structure Exn where
  n : Nat
  deriving DecidableEq
instance : En Int := ⟨.int⟩
instance : En Bool := ⟨.bool⟩
instance : En Str := ⟨.str⟩
instance : En Unit := ⟨fun _ => .none⟩
instance : En D := ⟨id⟩
instance {α : Type} [En α] : En (List α) := ⟨fun l => .list (l.map en)⟩
instance {α : Type} [En α] : En (Tu α) := ⟨fun l => .tuple (l.l.map en)⟩
instance {α β : Type} [En α] [En β] : En (α × β) := ⟨fun x => .tuple [en x.1, en x.2]⟩
instance {α β γ : Type} [En α] [En β] [En γ] : En (T3 α β γ) := ⟨fun x => .tuple [en x.a, en x.b, en x.c]⟩
instance {α β γ δ : Type} [En α] [En β] [En γ] [En δ] : En (T4 α β γ δ) := ⟨fun x => .tuple [en x.a, en x.b, en x.c, en x.d]⟩
instance {α β γ δ ε : Type} [En α] [En β] [En γ] [En δ] [En ε] : En (T5 α β γ δ ε) := ⟨fun x => .tuple [en x.a, en x.b, en x.c, en x.d, en x.e]⟩
instance {α : Type} [En α] : En (Option α) := ⟨fun x => match x with | none => .none | some a => en a⟩
instance {κ α : Type} [En κ] [En α] : En (Dc κ α) := ⟨fun x => .dict (x.l.map fun p => (en p.1, en p.2))⟩
instance : En Exn := ⟨fun x => .dict [(.list [], .int x.n)]⟩
/-- an instance's data: the class's name, the attributes -/
def insD (cn : Str) (fs : List (D × D)) : D := .dict ((.dict [], .str cn) :: fs)

/-- a scalar: what it is does not hang on the heap -/
def scD : D → Bool
  | .none | .bool _ | .int _ | .str _ => true
  | _ => false
class Sc (α : Type) [En α] : Prop where
  sc : ∀ a : α, scD (en a) = true
instance : Sc Int := ⟨fun _ => rfl⟩
instance : Sc Bool := ⟨fun _ => rfl⟩
instance : Sc Str := ⟨fun _ => rfl⟩
instance : Sc Unit := ⟨fun _ => rfl⟩
instance {α : Type} [En α] [Sc α] : Sc (Option α) := ⟨fun a => by cases a with | none => rfl | some a => exact Sc.sc a⟩

/-- what of a value is new, and known to nobody else -/
inductive Sh where
  | frz
  | lst (s : Sh)
  | tup (s : Sh)
  | ins (cn : Str) (fs : List (Str × Sh))
  | dic (s : Sh)

/-- all that is not new is scalar -/
inductive Gr : Sh → D → Prop
  | sc {s : Sh} {d : D} : scD d = true → Gr s d
  | lst {s : Sh} {ds : List D} : (∀ d ∈ ds, Gr s d) → Gr (.lst s) (.list ds)
  | tup {s : Sh} {ds : List D} : (∀ d ∈ ds, Gr s d) → Gr (.tup s) (.tuple ds)
class GrT (s : Sh) (α : Type) [En α] : Prop where
  gr : ∀ a : α, Gr s (en a)
instance {s : Sh} {α : Type} [En α] [Sc α] : GrT s α := ⟨fun a => .sc (Sc.sc a)⟩
instance {s : Sh} {α : Type} [En α] [GrT s α] : GrT (.lst s) (List α) := ⟨fun a => .lst fun d h => by
  obtain ⟨x, _, rfl⟩ := List.mem_map.mp h
  exact GrT.gr x⟩
instance {s : Sh} {α : Type} [En α] [GrT s α] : GrT (.tup s) (Tu α) := ⟨fun a => .tup fun d h => by
  obtain ⟨x, _, rfl⟩ := List.mem_map.mp h
  exact GrT.gr x⟩
instance {s : Sh} {α β : Type} [En α] [GrT s α] [En β] [GrT s β] : GrT (.tup s) (α × β) := ⟨fun a => .tup fun d h => by
  rcases List.mem_cons.mp h with rfl | h
  · exact GrT.gr a.1
  · rcases List.mem_cons.mp h with rfl | h
    · exact GrT.gr a.2
    · cases h⟩
instance {s : Sh} {α β γ : Type} [En α] [GrT s α] [En β] [GrT s β] [En γ] [GrT s γ] : GrT (.tup s) (T3 α β γ) := ⟨fun a => .tup fun d h => by
  rcases List.mem_cons.mp h with rfl | h
  · exact GrT.gr a.a
  · rcases List.mem_cons.mp h with rfl | h
    · exact GrT.gr a.b
    · rcases List.mem_cons.mp h with rfl | h
      · exact GrT.gr a.c
      · cases h⟩

/-! ### operators -/
def big : Nat := 16000000
def mulR (i j : Int) : R Int := if ((-(2 ^ 64) < i ∧ i < 2 ^ 64) ∨ (-(2 ^ 64) < j ∧ j < 2 ^ 64)) ∨ i.natAbs.log2 + j.natAbs.log2 < 1000000 then .ok (i * j) else .no
def divR (i j : Int) : R Int := if j ≠ 0 ∧ j.natAbs < 1073741824 ∨ 0 < j ∧ j.natAbs.log2 < 9000 then .ok (i.fdiv j) else .no
def modR (i j : Int) : R Int := if j ≠ 0 then .ok (i.fmod j) else .no
def powR (i j : Int) : R Int := if 0 ≤ j ∧ j ≤ 1000000 ∧ i.natAbs < 2 ^ 64 then .ok (i ^ j.toNat) else .no
/-- the place that an index names -/
def ixAt (n : Nat) (i : Int) : Option Nat := if 0 ≤ i then (if i < n then some i.toNat else none) else if -(n : Int) ≤ i then some (i + n).toNat else none
def ixR {α : Type} (xs : List α) (i : Int) : R α :=
  match ixAt xs.length i with
  | some k => (match xs[k]? with
    | some d => .ok d
    | none => .no)
  | none => .no
def putR {α : Type} (xs : List α) (i : Int) (a : α) : R (List α) :=
  match ixAt xs.length i with
  | some k => .ok (xs.set k a)
  | none => .no
def catR {α : Type} (xs ys : List α) : R (List α) := if xs.length + ys.length ≤ big then .ok (xs ++ ys) else .no
def repR {α : Type} (xs : List α) (k : Int) : R (List α) := if -(2 ^ 63) ≤ k ∧ k < 2 ^ 63 ∧ xs.length * k.toNat ≤ big then .ok (List.replicate k.toNat xs).flatten else .no
def appR {α : Type} (xs : List α) (a : α) : R (List α) := if xs.length < big then .ok (xs ++ [a]) else .no
def sIxV (n d : Nat) : Option Int → Nat
  | none => d
  | some i => if i < 0 then (i + n).toNat else min i.toNat n
def cutL {α : Type} (xs : List α) (lo hi : Option Int) : List α := (xs.drop (sIxV xs.length 0 lo)).take (sIxV xs.length xs.length hi - sIxV xs.length 0 lo)
/-- the value of an option that is told to be there -/
def unO {α : Type} : Option α → R α
  | some a => .ok a
  | none => .no
def absI (i : Int) : Int := if i < 0 then -i else i
def max2 (i j : Int) : Int := if j > i then j else i
def min2 (i j : Int) : Int := if j < i then j else i
def insI (i : Int) : List Int → List Int
  | [] => [i]
  | j :: r => if i ≤ j then i :: j :: r else j :: insI i r
def sortI : List Int → List Int
  | [] => []
  | i :: r => insI i (sortI r)
def gcdI (a b : Int) : Int := ((Nat.gcd a.natAbs b.natAbs : Nat) : Int)
def rangeI (lo hi : Int) : List Int := (List.range (hi - lo).toNat).map fun k => lo + (k : Nat)
def rng1 (j : Int) : R (List Int) := if -(2 ^ 62) ≤ j ∧ j ≤ big then .ok (rangeI 0 j) else .no
def rng2 (i j : Int) : R (List Int) := if -(2 ^ 62) ≤ i ∧ i < 2 ^ 62 ∧ -(2 ^ 62) ≤ j ∧ j < 2 ^ 62 ∧ j - i ≤ big then .ok (rangeI i j) else .no
def enumL {α : Type} : Nat → List α → List (Int × α)
  | _, [] => []
  | i, d :: ds => ((i : Int), d) :: enumL (i + 1) ds
/-- equality of what may be compared -/
def okD (d : D) : Bool := d.canLay0 && decide (d.depth ≤ 64)
def eqD : D → D → R Bool
  | .str x, .str y => .ok (decide (x = y))
  | x, y => if okD x && okD y then .ok (PyData.eqv x y) else .no
def flatD : D → Bool
  | .list _ | .tuple _ | .dict _ => false
  | _ => true
/-- equality of flat data -/
def eqF : D → D → Bool
  | .none, .none => true
  | .bool a, .bool b => a == b
  | .bool a, .int j => (if a then 1 else 0) == j
  | .int i, .bool b => i == (if b then 1 else 0)
  | .int i, .int j => i == j
  | .str x, .str y => decide (x = y)
  | _, _ => false
def reprR (d : D) : R Str := if d.showable && decide (d.depth ≤ 64) && decide (d.shown.length ≤ sizeLine) && okD d && !flatD d then .ok d.shown else .no

/-! ### control -/
/-- both must be so -/
def andR (a : R Bool) (b : R Bool) : R Bool := a.bind fun c => match c with
  | true => b
  | false => .ok false
def orR (a : R Bool) (b : R Bool) : R Bool := a.bind fun c => match c with
  | true => .ok true
  | false => b
def iteR {α : Type} (t : R Bool) (a b : R α) : R α := t.bind fun c => if c = true then a else b
def mapR {α β : Type} (f : α → R β) : List α → R (List β)
  | [] => .ok []
  | x :: xs => (f x).bind fun y => (mapR f xs).bind fun ys => .ok (y :: ys)
/-- a comprehension with a test -/
def fmapR {α β : Type} (t : α → R Bool) (f : α → R β) : List α → R (List β)
  | [] => .ok []
  | x :: xs => (t x).bind fun c => match c with
    | true => (f x).bind fun y => (fmapR t f xs).bind fun ys => .ok (y :: ys)
    | false => fmapR t f xs
/-- a for without break and return -/
def forR {α S : Type} (f : α → S → R S) : List α → S → R S
  | [], s => .ok s
  | x :: xs, s => (f x s).bind fun s' => forR f xs s'
/-- how a turn of a loop ends -/
inductive Lc (S β : Type) where
  | nx (s : S)
  | bk (s : S)
  | rt (b : β)
def lcGo {S β : Type} (k : S → R (Sum S β)) : Lc S β → R (Sum S β)
  | .nx s => k s
  | .bk s => .ok (.inl s)
  | .rt b => .ok (.inr b)
/-- a loop with break or return -/
def loopR {α S β : Type} (f : α → S → R (Lc S β)) : List α → S → R (Sum S β)
  | [], s => .ok (.inl s)
  | x :: xs, s => (f x s).bind (lcGo (loopR f xs))
def thenK {S β : Type} (k : S → R β) : Sum S β → R β
  | .inl s => k s
  | .inr b => .ok b
/-- what follows a block that may have returned -/
def thenR {S β : Type} (r : R (Sum S β)) (k : S → R β) : R β := r.bind (thenK k)
@[simp] theorem thenR_l {S β : Type} (s : S) (k : S → R β) : thenR (.ok (.inl s)) k = k s := rfl
@[simp] theorem thenR_r {S β : Type} (b : β) (k : S → R β) : thenR (.ok (.inr b)) k = .ok b := rfl
def whileN {S : Type} (t : S → R Bool) (f : S → R S) : Nat → S → R S
  | 0, _ => .no
  | n + 1, s => (t s).bind fun c => match c with
    | true => (f s).bind fun s' => whileN t f n s'
    | false => .ok s
def wloopN {S β : Type} (t : S → R Bool) (f : S → R (Lc S β)) : Nat → S → R (Sum S β)
  | 0, _ => .no
  | n + 1, s => (t s).bind fun c => match c with
    | true => (f s).bind (lcGo (wloopN t f n))
    | false => .ok (.inl s)
open Classical in
/-- a while, by any number of turns that is enough -/
noncomputable def whileR {S : Type} (t : S → R Bool) (f : S → R S) (s : S) : R S :=
  if h : ∃ n, ∃ s', whileN t f n s = .ok s' then whileN t f h.choose s else
  if h : ∃ n, ∃ c, whileN t f n s = .ex c then whileN t f h.choose s else .no
open Classical in
noncomputable def wloopR {S β : Type} (t : S → R Bool) (f : S → R (Lc S β)) (s : S) : R (Sum S β) :=
  if h : ∃ n, ∃ s', wloopN t f n s = .ok s' then wloopN t f h.choose s else
  if h : ∃ n, ∃ c, wloopN t f n s = .ex c then wloopN t f h.choose s else .no
theorem whileN_mono {S : Type} {t : S → R Bool} {f : S → R S} : ∀ {n m : Nat} {s s' : S}, whileN t f n s = .ok s' → n ≤ m → whileN t f m s = .ok s'
  | 0, _, _, _, h, _ => by cases h
  | n + 1, 0, _, _, _, hl => absurd hl (by omega)
  | n + 1, m + 1, s, s', h, hl => by
    unfold whileN at h ⊢
    cases ht : t s with
    | ok c =>
      rw [ht] at h
      cases c with
      | true =>
        have h : (f s).bind (fun s' => whileN t f n s') = R.ok s' := h
        obtain ⟨s1, h1, h2⟩ := R.bind_eq_ok.mp h
        show (f s).bind _ = _
        rw [h1]
        exact whileN_mono h2 (by omega)
      | false => exact h
    | ex c => rw [ht] at h; cases h
    | no => rw [ht] at h; cases h
theorem whileR_of {S : Type} {t : S → R Bool} {f : S → R S} {n : Nat} {s s' : S} (h : whileN t f n s = .ok s') : whileR t f s = .ok s' := by
  unfold whileR
  have hx : ∃ n, ∃ s', whileN t f n s = .ok s' := ⟨n, s', h⟩
  rw [dif_pos hx]
  obtain ⟨s2, h2⟩ := hx.choose_spec
  have a := whileN_mono h (Nat.le_max_left n hx.choose)
  have b := whileN_mono h2 (Nat.le_max_right n hx.choose)
  rw [h2, ← b, a]
theorem whileR_some {S : Type} (t : S → R Bool) (f : S → R S) (s : S) : ∃ n, whileR t f s = whileN t f n s := by
  unfold whileR
  split
  · exact ⟨_, rfl⟩
  · split
    · exact ⟨_, rfl⟩
    · exact ⟨0, rfl⟩
theorem wloopN_mono {S β : Type} {t : S → R Bool} {f : S → R (Lc S β)} : ∀ {n m : Nat} {s : S} {s' : Sum S β}, wloopN t f n s = .ok s' → n ≤ m → wloopN t f m s = .ok s'
  | 0, _, _, _, h, _ => by cases h
  | n + 1, 0, _, _, _, hl => absurd hl (by omega)
  | n + 1, m + 1, s, s', h, hl => by
    unfold wloopN at h ⊢
    cases ht : t s with
    | ok c =>
      rw [ht] at h
      cases c with
      | true =>
        have h : (f s).bind _ = R.ok s' := h
        obtain ⟨r, h1, h2⟩ := R.bind_eq_ok.mp h
        show (f s).bind _ = _
        rw [h1]
        cases r with
        | nx s1 => exact wloopN_mono h2 (by omega)
        | bk s1 => exact h2
        | rt b => exact h2
      | false => exact h
    | ex c => rw [ht] at h; cases h
    | no => rw [ht] at h; cases h
theorem wloopR_of {S β : Type} {t : S → R Bool} {f : S → R (Lc S β)} {n : Nat} {s : S} {s' : Sum S β} (h : wloopN t f n s = .ok s') : wloopR t f s = .ok s' := by
  unfold wloopR
  have hx : ∃ n, ∃ s', wloopN t f n s = .ok s' := ⟨n, s', h⟩
  rw [dif_pos hx]
  obtain ⟨s2, h2⟩ := hx.choose_spec
  have a := wloopN_mono h (Nat.le_max_left n hx.choose)
  have b := wloopN_mono h2 (Nat.le_max_right n hx.choose)
  rw [h2, ← b, a]
theorem wloopR_some {S β : Type} (t : S → R Bool) (f : S → R (Lc S β)) (s : S) : ∃ n, wloopR t f s = wloopN t f n s := by
  unfold wloopR
  split
  · exact ⟨_, rfl⟩
  · split
    · exact ⟨_, rfl⟩
    · exact ⟨0, rfl⟩
end Tx

set_option Elab.async false
set_option linter.all false
set_option maxRecDepth 100000
set_option maxHeartbeats 4000000
/-! A2: data in the heap. -/
namespace Tx
open PySem L2 En

/-- the class whose instances are data; the exception that is being handled: its object, its number -/
structure Rc where
  cl : Str → Option Addr
  xa : Option (Addr × Nat)
/-- .. and the classes of the exceptions by number -/
structure Vp where
  rc : Rc
  ea : Nat → Addr
/-- a list of xs: tracked, locked, or exactly so in the written part -/
def SqR (K : PySem.W.Frag) (H : Hp) (a : Addr) (xs : List V) : Prop :=
  Rd H a (.lst xs) ∨ ∃ (its : Array Value) (n : Nat), K.lookup a = some { cls := .type "list", data := .seq its n } ∧ its.size ≤ sizeLine ∧ Vals xs its.toList

/-- a key of a dict as data -/
def keyD : Key → D
  | .inl i => .int i
  | .inr x => .str x
mutual
inductive Rp (K : PySem.W.Frag) (C : Rc) (H : Hp) : V → D → Prop
  | non : Rp K C H .non .none
  | bl (b : Bool) : Rp K C H (.bl b) (.bool b)
  | int (i : Int) : Rp K C H (.int i) (.int i)
  | str (x : Str) : Rp K C H (.str x) (.str x)
  | lst {a : Addr} {xs : List V} {ds : List D} : SqR K H a xs → RpA K C H xs ds → Rp K C H (.ref a) (.list ds)
  | tup {a : Addr} {xs : List V} {ds : List D} : SqT K H a xs → RpA K C H xs ds → Rp K C H (.ref a) (.tuple ds)
  | obj {a c dx : Addr} {cn : Str} {fs : List (Str × V)} {kvs : List (D × D)} : C.cl cn = some c → H a = some (.ins c dx fs) → RpF K C H fs kvs → Rp K C H (.ref a) (.dict ((.dict [], .str cn) :: kvs))
  | dic {a : Addr} {fs : List (Key × V)} {kvs : List (D × D)} : Rd H a (.dK fs) → RpK K C H fs kvs → Rp K C H (.ref a) (.dict kvs)
  | exn {a : Addr} {n : Nat} : C.xa = some (a, n) → Rp K C H (.ref a) (.dict [(.list [], .int n)])
inductive RpA (K : PySem.W.Frag) (C : Rc) (H : Hp) : List V → List D → Prop
  | nil : RpA K C H [] []
  | cons {v : V} {vs : List V} {d : D} {ds : List D} : Rp K C H v d → RpA K C H vs ds → RpA K C H (v :: vs) (d :: ds)
inductive RpF (K : PySem.W.Frag) (C : Rc) (H : Hp) : List (Str × V) → List (D × D) → Prop
  | nil : RpF K C H [] []
  | cons {f : Str} {v : V} {fs : List (Str × V)} {d : D} {ds : List (D × D)} : Rp K C H v d → RpF K C H fs ds → RpF K C H ((f, v) :: fs) ((.str f, d) :: ds)
inductive RpK (K : PySem.W.Frag) (C : Rc) (H : Hp) : List (Key × V) → List (D × D) → Prop
  | nil : RpK K C H [] []
  | cons {k : Key} {v : V} {fs : List (Key × V)} {d : D} {ds : List (D × D)} : Rp K C H v d → RpK K C H fs ds → RpK K C H ((k, v) :: fs) ((keyD k, d) :: ds)
end

theorem rd_mono {H H' : Hp} {a : Addr} {u : HO} (e : Same H H') (h : Rd H a u) : Rd H' a u := by
  rcases h with h | ⟨o, h⟩
  · exact .inl (e a _ h)
  · exact .inr ⟨o, e a _ h⟩
theorem sqr_mono {K : PySem.W.Frag} {H H' : Hp} {a : Addr} {xs : List V} (e : Same H H') (h : SqR K H a xs) : SqR K H' a xs := by
  rcases h with h | h
  · exact .inl (rd_mono e h)
  · exact .inr h
theorem sqr_l {K : PySem.W.Frag} {H : Hp} {a : Addr} {xs : List V} (h : SqR K H a xs) : SqL K H a xs := by
  rcases h with h | ⟨its, n, h1, h2, h3⟩
  · exact .inl h
  · exact .inr ⟨_, its, n, h1, rfl, rfl, rfl, h2, h3⟩
theorem sqt_mono {K : PySem.W.Frag} {H H' : Hp} {a : Addr} {xs : List V} (e : Same H H') (h : SqT K H a xs) : SqT K H' a xs := by
  rcases h with h | h
  · exact .inl (rd_mono e h)
  · exact .inr h

section
variable {K : PySem.W.Frag} {C : Rc} {H H' : Hp}
mutual
theorem Rp.mono (e : Same H H') : ∀ (d : D) (v : V), Rp K C H v d → Rp K C H' v d
  | .none, _, h => by cases h; exact .non
  | .bool b, _, h => by cases h; exact .bl b
  | .int i, _, h => by cases h; exact .int i
  | .str x, _, h => by cases h; exact .str x
  | .list ds, _, h => by
    cases h with
    | lst h1 h2 => exact .lst (sqr_mono e h1) (RpA.mono e ds _ h2)
  | .tuple ds, _, h => by
    cases h with
    | tup h1 h2 => exact .tup (sqt_mono e h1) (RpA.mono e ds _ h2)
  | .dict kvs, _, h => by
    cases h with
    | obj h0 h1 h2 => exact .obj h0 (e _ _ h1) (RpF.mono e _ _ h2)
    | dic h1 h2 => exact .dic (rd_mono e h1) (RpK.mono e kvs _ h2)
    | exn h1 => exact .exn h1
theorem RpA.mono (e : Same H H') : ∀ (ds : List D) (vs : List V), RpA K C H vs ds → RpA K C H' vs ds
  | [], _, h => by cases h; exact .nil
  | d :: ds, _, h => by
    cases h with
    | cons h1 h2 => exact .cons (Rp.mono e d _ h1) (RpA.mono e ds _ h2)
theorem RpF.mono (e : Same H H') : ∀ (ds : List (D × D)) (vs : List (Str × V)), RpF K C H vs ds → RpF K C H' vs ds
  | [], _, h => by cases h; exact .nil
  | (k, d) :: ds, _, h => by
    cases h with
    | cons h1 h2 => exact .cons (Rp.mono e d _ h1) (RpF.mono e ds _ h2)
theorem RpK.mono (e : Same H H') : ∀ (ds : List (D × D)) (vs : List (Key × V)), RpK K C H vs ds → RpK K C H' vs ds
  | [], _, h => by cases h; exact .nil
  | (k, d) :: ds, _, h => by
    cases h with
    | cons h1 h2 => exact .cons (Rp.mono e d _ h1) (RpK.mono e ds _ h2)
end
theorem Rp.up {v : V} {d : D} (h : Rp K C H v d) (e : Same H H') : Rp K C H' v d := Rp.mono e d v h
theorem RpA.up {v : List V} {d : List D} (h : RpA K C H v d) (e : Same H H') : RpA K C H' v d := RpA.mono e d v h
mutual
theorem Rp.dp : ∀ (d : D) (v : V), Rp K C H v d → d.canLay0 = true → Dp K H v d
  | .none, _, h, _ => by cases h; exact .non
  | .bool b, _, h, _ => by cases h; exact .bl b
  | .int i, _, h, _ => by cases h; exact .int i
  | .str x, _, h, _ => by cases h; exact .str x
  | .list ds, _, h, z => by
    cases h with
    | lst h1 h2 => exact .lst (sqr_l h1) (RpA.dp ds _ h2 (by simpa [PyData.canLay0] using z))
  | .tuple ds, _, h, z => by
    cases h with
    | tup h1 h2 => exact .tup h1 (RpA.dp ds _ h2 (by simpa [PyData.canLay0] using z))
  | .dict kvs, _, h, z => by simp [PyData.canLay0] at z
theorem RpA.dp : ∀ (ds : List D) (vs : List V), RpA K C H vs ds → PyData.canLayAll0 ds = true → DpAll K H vs ds
  | [], _, h, _ => by cases h; exact .nil
  | d :: ds, _, h, z => by
    cases h with
    | cons h1 h2 =>
      simp only [PyData.canLayAll0, Bool.and_eq_true] at z
      exact .cons (Rp.dp d _ h1 z.1) (RpA.dp ds _ h2 z.2)
end
section
variable {C' : Rc}
mutual
/-- plain data does not hang on the record -/
theorem Rp.any : ∀ (d : D) (v : V), Rp K C H v d → d.canLay0 = true → Rp K C' H v d
  | .none, _, h, _ => by cases h; exact .non
  | .bool b, _, h, _ => by cases h; exact .bl b
  | .int i, _, h, _ => by cases h; exact .int i
  | .str x, _, h, _ => by cases h; exact .str x
  | .list ds, _, h, z => by
    cases h with
    | lst h1 h2 => exact .lst h1 (RpA.any ds _ h2 (by simpa [PyData.canLay0] using z))
  | .tuple ds, _, h, z => by
    cases h with
    | tup h1 h2 => exact .tup h1 (RpA.any ds _ h2 (by simpa [PyData.canLay0] using z))
  | .dict kvs, _, h, z => by simp [PyData.canLay0] at z
theorem RpA.any : ∀ (ds : List D) (vs : List V), RpA K C H vs ds → PyData.canLayAll0 ds = true → RpA K C' H vs ds
  | [], _, h, _ => by cases h; exact .nil
  | d :: ds, _, h, z => by
    cases h with
    | cons h1 h2 =>
      simp only [PyData.canLayAll0, Bool.and_eq_true] at z
      exact .cons (Rp.any d _ h1 z.1) (RpA.any ds _ h2 z.2)
end
mutual
/-- nothing was handled, now something is -/
theorem Rp.hot (e : C'.cl = C.cl) (n : C.xa = none) : ∀ (d : D) (v : V), Rp K C H v d → Rp K C' H v d
  | .none, _, h => by cases h; exact .non
  | .bool b, _, h => by cases h; exact .bl b
  | .int i, _, h => by cases h; exact .int i
  | .str x, _, h => by cases h; exact .str x
  | .list ds, _, h => by
    cases h with
    | lst h1 h2 => exact .lst h1 (RpA.hot e n ds _ h2)
  | .tuple ds, _, h => by
    cases h with
    | tup h1 h2 => exact .tup h1 (RpA.hot e n ds _ h2)
  | .dict kvs, _, h => by
    cases h with
    | obj h0 h1 h2 => exact .obj (by rw [e]; exact h0) h1 (RpF.hot e n _ _ h2)
    | dic h1 h2 => exact .dic h1 (RpK.hot e n kvs _ h2)
    | exn h1 => rw [n] at h1; cases h1
theorem RpA.hot (e : C'.cl = C.cl) (n : C.xa = none) : ∀ (ds : List D) (vs : List V), RpA K C H vs ds → RpA K C' H vs ds
  | [], _, h => by cases h; exact .nil
  | d :: ds, _, h => by
    cases h with
    | cons h1 h2 => exact .cons (Rp.hot e n d _ h1) (RpA.hot e n ds _ h2)
theorem RpF.hot (e : C'.cl = C.cl) (n : C.xa = none) : ∀ (ds : List (D × D)) (vs : List (Str × V)), RpF K C H vs ds → RpF K C' H vs ds
  | [], _, h => by cases h; exact .nil
  | (k, d) :: ds, _, h => by
    cases h with
    | cons h1 h2 => exact .cons (Rp.hot e n d _ h1) (RpF.hot e n ds _ h2)
theorem RpK.hot (e : C'.cl = C.cl) (n : C.xa = none) : ∀ (ds : List (D × D)) (vs : List (Key × V)), RpK K C H vs ds → RpK K C' H vs ds
  | [], _, h => by cases h; exact .nil
  | (k, d) :: ds, _, h => by
    cases h with
    | cons h1 h2 => exact .cons (Rp.hot e n d _ h1) (RpK.hot e n ds _ h2)
end
end
theorem RpA.len : ∀ {vs : List V} {ds : List D}, RpA K C H vs ds → vs.length = ds.length
  | _, _, .nil => rfl
  | _, _, .cons _ t => congrArg (· + 1) (RpA.len t)
theorem RpA.get : ∀ {vs : List V} {ds : List D} {i : Nat} {d : D}, RpA K C H vs ds → ds[i]? = some d → ∃ v, vs[i]? = some v ∧ Rp K C H v d
  | _, _, _, _, .nil, e => by simp at e
  | _, _, 0, _, .cons h _, e => by simp at e; subst e; exact ⟨_, rfl, h⟩
  | _, _, i + 1, _, .cons _ t, e => by
    obtain ⟨v, h1, h2⟩ := RpA.get (i := i) t (by simpa using e)
    exact ⟨v, by simpa using h1, h2⟩
theorem RpA.getV : ∀ {vs : List V} {ds : List D} {i : Nat} {v : V}, RpA K C H vs ds → vs[i]? = some v → ∃ d, ds[i]? = some d ∧ Rp K C H v d
  | _, _, _, _, .nil, e => by simp at e
  | _, _, 0, _, .cons h _, e => by simp at e; subst e; exact ⟨_, rfl, h⟩
  | _, _, i + 1, _, .cons _ t, e => by
    obtain ⟨v, h1, h2⟩ := RpA.getV (i := i) t (by simpa using e)
    exact ⟨v, by simpa using h1, h2⟩
theorem RpA.app : ∀ {vs ws : List V} {ds es : List D}, RpA K C H vs ds → RpA K C H ws es → RpA K C H (vs ++ ws) (ds ++ es)
  | _, _, _, _, .nil, s => s
  | _, _, _, _, .cons h t, s => .cons h (RpA.app t s)
theorem RpA.set {v : V} {d : D} (r : Rp K C H v d) : ∀ {vs : List V} {ds : List D} (i : Nat), RpA K C H vs ds → RpA K C H (vs.set i v) (ds.set i d)
  | _, _, _, .nil => .nil
  | _, _, 0, .cons _ t => .cons r t
  | _, _, i + 1, .cons q t => .cons q (RpA.set r i t)
theorem RpA.take : ∀ {vs : List V} {ds : List D} (n : Nat), RpA K C H vs ds → RpA K C H (vs.take n) (ds.take n)
  | _, _, 0, _ => .nil
  | _, _, _ + 1, .nil => .nil
  | _, _, n + 1, .cons r t => .cons r (RpA.take n t)
theorem RpA.drop : ∀ {vs : List V} {ds : List D} (n : Nat), RpA K C H vs ds → RpA K C H (vs.drop n) (ds.drop n)
  | _, _, 0, r => r
  | _, _, _ + 1, .nil => .nil
  | _, _, n + 1, .cons _ t => RpA.drop n t
theorem RpA.rep {vs : List V} {ds : List D} (r : RpA K C H vs ds) : ∀ n : Nat, RpA K C H (List.replicate n vs).flatten (List.replicate n ds).flatten
  | 0 => .nil
  | n + 1 => by
    rw [List.replicate_succ, List.replicate_succ, List.flatten_cons, List.flatten_cons]
    exact RpA.app r (RpA.rep r n)
theorem RpA.ints : ∀ {ns : List Int}, RpA K C H (ns.map V.int) (ns.map PyData.int)
  | [] => .nil
  | i :: r => .cons (.int i) RpA.ints
theorem RpA.ofInts : ∀ {vs : List V} {ns : List Int}, RpA K C H vs (ns.map PyData.int) → vs = ns.map V.int
  | _, [], .nil => rfl
  | _, i :: r, .cons h t => by cases h; rw [List.map_cons, RpA.ofInts t]
theorem RpA.ofBools : ∀ {vs : List V} {ns : List Bool}, RpA K C H vs (ns.map PyData.bool) → vs = ns.map V.bl
  | _, [], .nil => rfl
  | _, i :: r, .cons h t => by cases h; rw [List.map_cons, RpA.ofBools t]
end

/-! ### the frozen part of a heap -/
structure Ext (F H F' : Hp) : Prop where
  up : Same F F'
  new : ∀ a o, F' a = some o → (∃ u, F a = some u) ∨ H a = none
theorem Ext.refl (F H : Hp) : Ext F H F := ⟨Same.refl F, fun _ o h => .inl ⟨o, h⟩⟩
theorem none_back {H H1 : Hp} (s : Same H H1) {a : Addr} (h : H1 a = none) : H a = none := by
  cases q : H a with
  | none => rfl
  | some o => rw [s a o q] at h; cases h
theorem Ext.trans {F H F1 H1 F2 : Hp} (a : Ext F H F1) (s : Same H H1) (b : Ext F1 H1 F2) : Ext F H F2 :=
  ⟨a.up.trans b.up, fun x o h => by
    rcases b.new x o h with ⟨u, z⟩ | z
    · exact a.new x u z
    · exact .inr (none_back s z)⟩
theorem Ext.at {F H H1 F1 : Hp} (s : Same H H1) (b : Ext F H1 F1) : Ext F H F1 := ⟨b.up, fun x o h => (b.new x o h).imp id fun z => none_back s z⟩
theorem Ext.one {F H : Hp} {p : Addr} {o : HO} (h : H p = none) (s : Same F H) : Ext F H (upd F p o) :=
  ⟨fun a u e => by rw [upd_ne (ne_of_none (s a u e) h)]; exact e, fun a u e => by
    by_cases q : a = p
    · subst q; exact .inr h
    · rw [upd_ne q] at e; exact .inl ⟨u, e⟩⟩
theorem same_upd {H : Hp} {p : Addr} {o : HO} (h : H p = none) : Same H (upd H p o) := fun a u e => by
  rw [upd_ne (ne_of_none e h)]; exact e
theorem same_upd2 {F H : Hp} {p : Addr} {o : HO} (s : Same F H) : Same (upd F p o) (upd H p o) := fun a u e => by
  by_cases q : a = p
  · subst q; rw [upd_same] at e ⊢; exact e
  · rw [upd_ne q] at e ⊢; exact s a u e
/-- an address that is known outside the frozen part stays outside -/
theorem Ext.out {F H F' : Hp} (x : Ext F H F') {p : Addr} {o : HO} (h : H p = some o) (f : F p = none) : F' p = none := by
  cases q : F' p with
  | none => rfl
  | some u =>
    rcases x.new p u q with ⟨z, e⟩ | e
    · rw [f] at e; cases e
    · rw [h] at e; cases e

/-! ### how a reading ends -/
def Hd {α : Type} (E : XK) (W : Vp) (H : Hp) (r : R α) (k : α → Prop) : Prop :=
  match r with
  | .ok a => k a
  | .ex c => ∀ H', Same H H' → E (.ref (W.ea c)) none H'
  | .no => False
section
variable {α β : Type} {E : XK} {W : Vp} {H H' : Hp} {r : R α} {k k' : α → Prop}
theorem hd_bind {f : α → R β} {k : β → Prop} (h : Hd E W H (r.bind f) k) : Hd E W H r fun a => Hd E W H (f a) k := by
  cases r with
  | ok a => exact h
  | ex c => exact h
  | no => exact h
theorem Hd.imp (h : Hd E W H r k) (i : ∀ a, k a → k' a) : Hd E W H r k' := by
  cases r with
  | ok a => exact i a h
  | ex c => exact h
  | no => exact h
theorem Hd.imp' (h : Hd E W H r k) (i : ∀ a, r = .ok a → k a → k' a) : Hd E W H r k' := by
  cases r with
  | ok a => exact i a rfl h
  | ex c => exact h
  | no => exact h
theorem Hd.heap (h : Hd E W H r k) (s : Same H H') : Hd E W H' r k := by
  cases r with
  | ok a => exact h
  | ex c => exact fun H2 z => h H2 (s.trans z)
  | no => exact h
end


def VPost (K : PySem.W.Frag) (W : Vp) (F H : Hp) (Q : VK) (d : D) : Prop := ∀ v H' F', Same H H' → Ext F H F' → Same F' H' → Rp K W.rc F' v d → Q v H'
/-- .. a new list -/
def NPost (K : PySem.W.Frag) (W : Vp) (F H : Hp) (Q : VK) (d : D) : Prop := ∀ p vs ds H' F', d = .list ds → Same H H' → Ext F H F' → Same F' H' → H p = none → F' p = none → H' p = some (.lst vs) → RpA K W.rc F' vs ds → Q (.ref p) H'
theorem VPost.step {K : PySem.W.Frag} {W : Vp} {F H F1 H1 : Hp} {Q : VK} {d : D} (h : VPost K W F H Q d) (s : Same H H1) (e : Ext F H F1) : VPost K W F1 H1 Q d := fun v H' F' a b c r => h v H' F' (s.trans a) (e.trans s b) c r
theorem _root_.L2.PE.wk {X : Cx} {e : Expr} {t t' : TE} (h : PE X e t) (i : ∀ σ H Q, t' σ H Q → t σ H Q) : PE X e t' := ⟨fun pins s σ H Q I q => h.run pins s σ H Q I (i σ H Q q)⟩
theorem _root_.L2.PA.wk {X : Cx} {e : List Expr} {t t' : TA} (h : PA X e t) (i : ∀ σ H Q, t' σ H Q → t σ H Q) : PA X e t' := ⟨fun p pins s σ H Q I q => h.run p pins s σ H Q I (i σ H Q q)⟩
theorem _root_.L2.PT.wk {X : Cx} {e : Expr} {t t' : TT} (h : PT X e t) (i : ∀ σ H Q, t' σ H Q → t σ H Q) : PT X e t' := ⟨fun pins s σ H Q I q => h.run pins s σ H Q I (i σ H Q q)⟩
theorem _root_.L2.PW.wk {X : Cx} {e : Expr} {t t' : TT} (h : PW X e t) (i : ∀ σ H Q, t' σ H Q → t σ H Q) : PW X e t' := ⟨fun w pins s σ H Q I q => h.run w pins s σ H Q I (i σ H Q q)⟩
theorem _root_.L2.PS.wk {X : Cx} {e : Stmt} {t t' : TS} (h : PS X e t) (i : ∀ D σ H, t' D σ H → t D σ H) : PS X e t' := ⟨fun pins s σ H D I q => h.run pins s σ H D I (i D σ H q)⟩
theorem _root_.L2.PSs.wk {X : Cx} {e : List Stmt} {t t' : TS} (h : PSs X e t) (i : ∀ D σ H, t' D σ H → t D σ H) : PSs X e t' := ⟨fun pins s σ H D I q => h.run pins s σ H D I (i D σ H q)⟩
theorem _root_.L2.PG.wk {X : Cx} {e : Expr} {t t' : TG} (h : PG X e t) (i : ∀ v σ H Q, t' v σ H Q → t v σ H Q) : PG X e t' := ⟨fun pins s σ H v u Q I r q => h.run pins s σ H v u Q I r (i v σ H Q q)⟩
theorem _root_.L2.PGs.wk {X : Cx} {e : List Expr} {t t' : TGs} (h : PGs X e t) (i : ∀ v σ H Q, t' v σ H Q → t v σ H Q) : PGs X e t' := ⟨fun pins s σ H v u Q I r q => h.run pins s σ H v u Q I r (i v σ H Q q)⟩
theorem _root_.L2.PI.wk {X : Cx} {tg e : Expr} {t t' : TI} (h : PI X tg e t) (i : ∀ σ H R, t' σ H R → t σ H R) : PI X tg e t' := ⟨fun pins s σ H R I q => h.run pins s σ H R I (i σ H R q)⟩
theorem _root_.L2.PO.wk {X : Cx} {e : Option Expr} {t t' : TO} (h : PO X e t) (i : ∀ σ H Q, t' σ H Q → t σ H Q) : PO X e t' := ⟨fun pins s σ H Q I q => h.run pins s σ H Q I (i σ H Q q)⟩
theorem _root_.L2.PTs.wk {X : Cx} {e : List Expr} {t t' : TT} (h : PTs X e t) (i : ∀ σ H Q, t' σ H Q → t σ H Q) : PTs X e t' := ⟨fun pins s σ H Q I q => h.run pins s σ H Q I (i σ H Q q)⟩
theorem big_le : big ≤ sizeLine := by decide

/-- the sizes of what lies in the heap -/
def LenOk (H : Hp) : Prop := (∀ a xs, Rd H a (.lst xs) → xs.length ≤ sizeLine) ∧ (∀ a xs, Rd H a (.tup xs) → xs.length ≤ sizeLine) ∧ ∀ a c dx fs, H a = some (.ins c dx fs) → fs.length ≤ 1000
theorem lenOk {X : Cx} {pins : List (Addr × Obj)} {σ : L2.St} {H : Hp} {s : Shared} (I : Inv X pins σ H s) : LenOk H :=
  ⟨fun a xs h => (show ObjOk X.prog X.w H s.heap a (.lst xs) from h.ok I.hok).1, fun a xs h => (show ObjOk X.prog X.w H s.heap a (.tup xs) from h.ok I.hok).1, fun a c dx fs h => (show ObjOk X.prog X.w H s.heap a (.ins c dx fs) from I.hok a _ h).2.1⟩
theorem _root_.L2.PE.wkL {X : Cx} {e : Expr} {t t' : TE} (h : PE X e t) (i : ∀ σ H Q, LenOk H → t' σ H Q → t σ H Q) : PE X e t' := ⟨fun pins s σ H Q I q => h.run pins s σ H Q I (i σ H Q (lenOk I) q)⟩
theorem _root_.L2.PS.wkL {X : Cx} {e : Stmt} {t t' : TS} (h : PS X e t) (i : ∀ D σ H, LenOk H → t' D σ H → t D σ H) : PS X e t' := ⟨fun pins s σ H D I q => h.run pins s σ H D I (i D σ H (lenOk I) q)⟩
theorem sqr_len {K : PySem.W.Frag} {H : Hp} {a : Addr} {xs : List V} (l : LenOk H) (h : SqR K H a xs) : xs.length ≤ sizeLine := by
  rcases h with h | ⟨its, n, h1, h2, h3⟩
  · exact l.1 a xs h
  · have := Vals.length h3
    simp at this
    omega
end Tx

set_option Elab.async false
set_option linter.all false
set_option maxRecDepth 100000
set_option maxHeartbeats 4000000
/-! A3: what is new and owned; the slots of a def by what they hold. -/
namespace Tx
open PySem L2 En

mutual
/-- v stands for d; the addresses fp are its own, what else it holds lies in the frozen part F -/
inductive Ow (K : PySem.W.Frag) (C : Rc) (F H : Hp) : Sh → V → D → List Addr → Prop
  | sc {s : Sh} {v : V} {d : D} : scD d = true → Rp K C F v d → Ow K C F H s v d []
  | fz {v : V} {d : D} : Rp K C F v d → Ow K C F H .frz v d []
  | lst {s : Sh} {a : Addr} {xs : List V} {ds : List D} {fp : List Addr} : H a = some (.lst xs) → OwA K C F H s xs ds fp → a ∉ fp → Ow K C F H (.lst s) (.ref a) (.list ds) (a :: fp)
  | tup {s : Sh} {a : Addr} {xs : List V} {ds : List D} {fp : List Addr} : H a = some (.tup xs) → OwA K C F H s xs ds fp → a ∉ fp → Ow K C F H (.tup s) (.ref a) (.tuple ds) (a :: fp)
  | ins {cn : Str} {c a dx : Addr} {ss : List (Str × Sh)} {fs : List (Str × V)} {kvs : List (D × D)} {fp : List Addr} : C.cl cn = some c → H a = some (.ins c dx fs) → OwF K C F H ss fs kvs fp → a ∉ fp → Ow K C F H (.ins cn ss) (.ref a) (.dict ((.dict [], .str cn) :: kvs)) (a :: fp)
  | dic {s : Sh} {a : Addr} {fs : List (Key × V)} {kvs : List (D × D)} {fp : List Addr} : H a = some (.dK fs) → OwK K C F H s fs kvs fp → a ∉ fp → Ow K C F H (.dic s) (.ref a) (.dict kvs) (a :: fp)
inductive OwA (K : PySem.W.Frag) (C : Rc) (F H : Hp) : Sh → List V → List D → List Addr → Prop
  | nil {s : Sh} : OwA K C F H s [] [] []
  | cons {s : Sh} {v : V} {d : D} {vs : List V} {ds : List D} {fp fq : List Addr} : Ow K C F H s v d fp → OwA K C F H s vs ds fq → (∀ a ∈ fp, a ∉ fq) → OwA K C F H s (v :: vs) (d :: ds) (fp ++ fq)
inductive OwF (K : PySem.W.Frag) (C : Rc) (F H : Hp) : List (Str × Sh) → List (Str × V) → List (D × D) → List Addr → Prop
  | nil : OwF K C F H [] [] [] []
  | cons {f : Str} {s : Sh} {v : V} {d : D} {ss : List (Str × Sh)} {vs : List (Str × V)} {ds : List (D × D)} {fp fq : List Addr} : Ow K C F H s v d fp → OwF K C F H ss vs ds fq → (∀ a ∈ fp, a ∉ fq) → OwF K C F H ((f, s) :: ss) ((f, v) :: vs) ((.str f, d) :: ds) (fp ++ fq)
inductive OwK (K : PySem.W.Frag) (C : Rc) (F H : Hp) : Sh → List (Key × V) → List (D × D) → List Addr → Prop
  | nil {s : Sh} : OwK K C F H s [] [] []
  | cons {k : Key} {s : Sh} {v : V} {d : D} {vs : List (Key × V)} {ds : List (D × D)} {fp fq : List Addr} : Ow K C F H s v d fp → OwK K C F H s vs ds fq → (∀ a ∈ fp, a ∉ fq) → OwK K C F H s ((k, v) :: vs) ((keyD k, d) :: ds) (fp ++ fq)
end
section
variable {K : PySem.W.Frag} {C C' : Rc} {F F' H H' : Hp} {s : Sh} {v : V} {d : D} {vs : List V} {ds : List D} {fp : List Addr}
theorem mem_l {a : Addr} {p q : List Addr} (h : a ∈ p) : a ∈ p ++ q := List.mem_append.mpr (.inl h)
theorem mem_r {a : Addr} {p q : List Addr} (h : a ∈ q) : a ∈ p ++ q := List.mem_append.mpr (.inr h)
theorem sc_rp {H' : Hp} (h : Rp K C H v d) (z : scD d = true) : Rp K C H' v d := by
  cases h with
  | non => exact .non
  | bl b => exact .bl b
  | int i => exact .int i
  | str y => exact .str y
  | _ => cases z
theorem sc_any (h : Rp K C H v d) (z : scD d = true) : Rp K C' H' v d := by
  cases h with
  | non => exact .non
  | bl b => exact .bl b
  | int i => exact .int i
  | str y => exact .str y
  | _ => cases z
/-- the frozen part may grow; what is owned lies as it did -/
theorem Ow.mono (f : Same F F') (h : Ow K C F H s v d fp) : (∀ a ∈ fp, H' a = H a) → Ow K C F' H' s v d fp :=
  Ow.rec (motive_1 := fun s v d fp _ => (∀ a ∈ fp, H' a = H a) → Ow K C F' H' s v d fp) (motive_2 := fun s v d fp _ => (∀ a ∈ fp, H' a = H a) → OwA K C F' H' s v d fp)
    (motive_3 := fun s v d fp _ => (∀ a ∈ fp, H' a = H a) → OwF K C F' H' s v d fp) (motive_4 := fun s v d fp _ => (∀ a ∈ fp, H' a = H a) → OwK K C F' H' s v d fp)
    (fun z r _ => .sc z (r.up f)) (fun r _ => .fz (r.up f))
    (fun h _ n ih g => .lst ((g _ List.mem_cons_self).trans h) (ih fun a ha => g a (List.mem_cons_of_mem _ ha)) n)
    (fun h _ n ih g => .tup ((g _ List.mem_cons_self).trans h) (ih fun a ha => g a (List.mem_cons_of_mem _ ha)) n)
    (fun c h _ n ih g => .ins c ((g _ List.mem_cons_self).trans h) (ih fun a ha => g a (List.mem_cons_of_mem _ ha)) n)
    (fun h _ n ih g => .dic ((g _ List.mem_cons_self).trans h) (ih fun a ha => g a (List.mem_cons_of_mem _ ha)) n)
    (fun _ => .nil) (fun _ _ n i j g => .cons (i fun a ha => g a (mem_l ha)) (j fun a ha => g a (mem_r ha)) n)
    (fun _ => .nil) (fun _ _ n i j g => .cons (i fun a ha => g a (mem_l ha)) (j fun a ha => g a (mem_r ha)) n)
    (fun _ => .nil) (fun _ _ n i j g => .cons (i fun a ha => g a (mem_l ha)) (j fun a ha => g a (mem_r ha)) n) h
theorem OwA.mono (f : Same F F') : ∀ {vs : List V} {ds : List D} {fp : List Addr}, OwA K C F H s vs ds fp → (∀ a ∈ fp, H' a = H a) → OwA K C F' H' s vs ds fp
  | _, _, _, .nil, _ => .nil
  | _, _, _, .cons a b n, g => .cons (a.mono f fun x hx => g x (mem_l hx)) (OwA.mono f b fun x hx => g x (mem_r hx)) n
theorem OwF.mono (f : Same F F') : ∀ {ss : List (Str × Sh)} {vs : List (Str × V)} {ds : List (D × D)} {fp : List Addr}, OwF K C F H ss vs ds fp → (∀ a ∈ fp, H' a = H a) → OwF K C F' H' ss vs ds fp
  | _, _, _, _, .nil, _ => .nil
  | _, _, _, _, .cons a b n, g => .cons (a.mono f fun x hx => g x (mem_l hx)) (OwF.mono f b fun x hx => g x (mem_r hx)) n
theorem OwK.mono (f : Same F F') : ∀ {vs : List (Key × V)} {ds : List (D × D)} {fp : List Addr}, OwK K C F H s vs ds fp → (∀ a ∈ fp, H' a = H a) → OwK K C F' H' s vs ds fp
  | _, _, _, .nil, _ => .nil
  | _, _, _, .cons a b n, g => .cons (a.mono f fun x hx => g x (mem_l hx)) (OwK.mono f b fun x hx => g x (mem_r hx)) n
/-- all of it is frozen -/
theorem Ow.rp (f : Same F F') (h : Ow K C F H s v d fp) : (∀ a ∈ fp, F' a = H a) → Rp K C F' v d :=
  Ow.rec (motive_1 := fun s v d fp _ => (∀ a ∈ fp, F' a = H a) → Rp K C F' v d) (motive_2 := fun s v d fp _ => (∀ a ∈ fp, F' a = H a) → RpA K C F' v d)
    (motive_3 := fun s v d fp _ => (∀ a ∈ fp, F' a = H a) → RpF K C F' v d) (motive_4 := fun s v d fp _ => (∀ a ∈ fp, F' a = H a) → RpK K C F' v d)
    (fun z r _ => r.up f) (fun r _ => r.up f)
    (fun h _ n ih g => .lst (.inl (.inl ((g _ List.mem_cons_self).trans h))) (ih fun a ha => g a (List.mem_cons_of_mem _ ha)))
    (fun h _ n ih g => .tup (SqT.of ((g _ List.mem_cons_self).trans h)) (ih fun a ha => g a (List.mem_cons_of_mem _ ha)))
    (fun c h _ n ih g => .obj c ((g _ List.mem_cons_self).trans h) (ih fun a ha => g a (List.mem_cons_of_mem _ ha)))
    (fun h _ n ih g => .dic (.inl ((g _ List.mem_cons_self).trans h)) (ih fun a ha => g a (List.mem_cons_of_mem _ ha)))
    (fun _ => .nil) (fun _ _ n i j g => .cons (i fun a ha => g a (mem_l ha)) (j fun a ha => g a (mem_r ha)))
    (fun _ => .nil) (fun _ _ n i j g => .cons (i fun a ha => g a (mem_l ha)) (j fun a ha => g a (mem_r ha)))
    (fun _ => .nil) (fun _ _ n i j g => .cons (i fun a ha => g a (mem_l ha)) (j fun a ha => g a (mem_r ha))) h
theorem OwA.rp (f : Same F F') : ∀ {vs : List V} {ds : List D} {fp : List Addr}, OwA K C F H s vs ds fp → (∀ a ∈ fp, F' a = H a) → RpA K C F' vs ds
  | _, _, _, .nil, _ => .nil
  | _, _, _, .cons a b n, g => .cons (a.rp f fun x hx => g x (mem_l hx)) (OwA.rp f b fun x hx => g x (mem_r hx))
theorem OwF.rp (f : Same F F') : ∀ {ss : List (Str × Sh)} {vs : List (Str × V)} {ds : List (D × D)} {fp : List Addr}, OwF K C F H ss vs ds fp → (∀ a ∈ fp, F' a = H a) → RpF K C F' vs ds
  | _, _, _, _, .nil, _ => .nil
  | _, _, _, _, .cons a b n, g => .cons (a.rp f fun x hx => g x (mem_l hx)) (OwF.rp f b fun x hx => g x (mem_r hx))
/-- what is owned is there -/
theorem Ow.live (h : Ow K C F H s v d fp) : ∀ a ∈ fp, ∃ o, H a = some o :=
  Ow.rec (motive_1 := fun s v d fp _ => ∀ a ∈ fp, ∃ o, H a = some o) (motive_2 := fun s v d fp _ => ∀ a ∈ fp, ∃ o, H a = some o)
    (motive_3 := fun s v d fp _ => ∀ a ∈ fp, ∃ o, H a = some o) (motive_4 := fun s v d fp _ => ∀ a ∈ fp, ∃ o, H a = some o)
    (fun z r a h => nomatch h) (fun r a h => nomatch h)
    (fun h _ n ih a g => (List.mem_cons.mp g).elim (fun e => ⟨_, e ▸ h⟩) (ih a))
    (fun h _ n ih a g => (List.mem_cons.mp g).elim (fun e => ⟨_, e ▸ h⟩) (ih a))
    (fun c h _ n ih a g => (List.mem_cons.mp g).elim (fun e => ⟨_, e ▸ h⟩) (ih a))
    (fun h _ n ih a g => (List.mem_cons.mp g).elim (fun e => ⟨_, e ▸ h⟩) (ih a))
    (fun a h => nomatch h) (fun _ _ n i j a g => (List.mem_append.mp g).elim (i a) (j a))
    (fun a h => nomatch h) (fun _ _ n i j a g => (List.mem_append.mp g).elim (i a) (j a))
    (fun a h => nomatch h) (fun _ _ n i j a g => (List.mem_append.mp g).elim (i a) (j a)) h
theorem OwA.live : ∀ {vs : List V} {ds : List D} {fp : List Addr}, OwA K C F H s vs ds fp → ∀ a ∈ fp, ∃ o, H a = some o
  | _, _, _, .nil => fun a h => nomatch h
  | _, _, _, .cons a b n => fun x g => (List.mem_append.mp g).elim (a.live x) (OwA.live b x)
/-- nothing was handled, now something is -/
theorem Ow.hot (e : C'.cl = C.cl) (n : C.xa = none) (h : Ow K C F H s v d fp) : Ow K C' F H s v d fp :=
  Ow.rec (motive_1 := fun s v d fp _ => Ow K C' F H s v d fp) (motive_2 := fun s v d fp _ => OwA K C' F H s v d fp)
    (motive_3 := fun s v d fp _ => OwF K C' F H s v d fp) (motive_4 := fun s v d fp _ => OwK K C' F H s v d fp)
    (fun z r => .sc z (Rp.hot e n _ _ r)) (fun r => .fz (Rp.hot e n _ _ r))
    (fun h _ n ih => .lst h ih n)
    (fun h _ n ih => .tup h ih n)
    (fun c h _ n ih => .ins (by rw [e]; exact c) h ih n)
    (fun h _ n ih => .dic h ih n)
    .nil (fun _ _ n i j => .cons i j n)
    .nil (fun _ _ n i j => .cons i j n)
    .nil (fun _ _ n i j => .cons i j n) h
theorem OwA.gr' (g : ∀ (v : V) (d : D) (fp : List Addr), d ∈ ds → Ow K C F H s v d fp → Ow K C F' H s v d fp) : ∀ {vs : List V} {es : List D} {fp : List Addr}, (∀ d ∈ es, d ∈ ds) → OwA K C F H s vs es fp → OwA K C F' H s vs es fp
  | _, _, _, _, .nil => .nil
  | _, _, _, m, .cons a b n => .cons (g _ _ _ (m _ List.mem_cons_self) a) (OwA.gr' g (fun d h => m d (List.mem_cons_of_mem _ h)) b) n
/-- what is not new is scalar: the frozen part does not count -/
theorem Ow.ground (g : Gr s d) : ∀ {v : V} {fp : List Addr}, Ow K C F H s v d fp → Ow K C F' H s v d fp := by
  induction g with
  | sc z =>
    intro v fp h
    cases h with
    | sc _ r => exact .sc z (sc_rp r z)
    | fz r => exact .sc z (sc_rp r z)
    | _ => cases z
  | lst g ih =>
    intro v fp h
    cases h with
    | sc z r => cases z
    | lst h a n => exact .lst h (OwA.gr' (fun v d fp hd w => ih d hd w) (fun _ h => h) a) n
  | tup g ih =>
    intro v fp h
    cases h with
    | sc z r => cases z
    | tup h a n => exact .tup h (OwA.gr' (fun v d fp hd w => ih d hd w) (fun _ h => h) a) n
theorem OwA.ofRp : ∀ {vs : List V} {ds : List D}, RpA K C F vs ds → OwA K C F H .frz vs ds []
  | _, _, .nil => .nil
  | _, _, .cons a b => .cons (fp := []) (fq := []) (.fz a) (OwA.ofRp b) (fun _ h => nomatch h)
theorem Ow.toRp (h : Ow K C F H .frz v d fp) : fp = [] ∧ Rp K C F v d := by
  cases h with
  | sc z r => exact ⟨rfl, r⟩
  | fz r => exact ⟨rfl, r⟩
theorem OwA.toRp : ∀ {vs : List V} {ds : List D} {fp : List Addr}, OwA K C F H .frz vs ds fp → fp = [] ∧ RpA K C F vs ds
  | _, _, _, .nil => ⟨rfl, .nil⟩
  | _, _, _, .cons a b _ => by
    obtain ⟨e, r⟩ := a.toRp
    obtain ⟨e', r'⟩ := OwA.toRp b
    subst e e'
    exact ⟨rfl, .cons r r'⟩
theorem OwA.len : ∀ {vs : List V} {ds : List D} {fp : List Addr}, OwA K C F H s vs ds fp → vs.length = ds.length
  | _, _, _, .nil => rfl
  | _, _, _, .cons _ b _ => congrArg (· + 1) (OwA.len b)
/-- one more at the end -/
theorem OwA.snoc {v : V} {d : D} {fq : List Addr} (w : Ow K C F H s v d fq) : ∀ {vs : List V} {ds : List D} {fp : List Addr}, OwA K C F H s vs ds fp → (∀ a ∈ fp, a ∉ fq) → ∃ fr, (∀ a, a ∈ fr ↔ a ∈ fp ∨ a ∈ fq) ∧ OwA K C F H s (vs ++ [v]) (ds ++ [d]) fr
  | _, _, _, .nil, _ => ⟨fq ++ [], by simp, .cons w .nil (by simp)⟩
  | _, _, _, .cons (fp := fa) (fq := fb) a b n, m => by
    obtain ⟨fr, h1, h2⟩ := OwA.snoc w b fun x hx => m x (mem_r hx)
    refine ⟨fa ++ fr, fun x => ?_, .cons a h2 fun x hx hy => ?_⟩
    · simp only [List.mem_append, h1]
      constructor
      · rintro (h | h | h)
        · exact .inl (.inl h)
        · exact .inl (.inr h)
        · exact .inr h
      · rintro ((h | h) | h)
        · exact .inl h
        · exact .inr (.inl h)
        · exact .inr (.inr h)
    · rcases (h1 x).mp hy with h | h
      · exact n x hx h
      · exact m x (mem_l hx) h
theorem OwA.app : ∀ {vs : List V} {ds : List D} {fp : List Addr} {ws : List V} {es : List D} {fq : List Addr}, OwA K C F H s vs ds fp → OwA K C F H s ws es fq → (∀ a ∈ fp, a ∉ fq) → ∃ fr, (∀ a, a ∈ fr ↔ a ∈ fp ∨ a ∈ fq) ∧ OwA K C F H s (vs ++ ws) (ds ++ es) fr
  | _, _, _, _, _, fq, .nil, w, _ => ⟨fq, by simp, w⟩
  | _, _, _, _, _, fq, .cons (fp := fa) (fq := fb) a b n, w, m => by
    obtain ⟨fr, h1, h2⟩ := OwA.app b w fun x hx => m x (mem_r hx)
    refine ⟨fa ++ fr, fun x => ?_, .cons a h2 fun x hx hy => ?_⟩
    · simp only [List.mem_append, h1]
      constructor
      · rintro (h | h | h)
        · exact .inl (.inl h)
        · exact .inl (.inr h)
        · exact .inr h
      · rintro ((h | h) | h)
        · exact .inl h
        · exact .inr (.inl h)
        · exact .inr (.inr h)
    · rcases (h1 x).mp hy with h | h
      · exact n x hx h
      · exact m x (mem_l hx) h
/-- a child, and another in its place -/
theorem OwA.focus : ∀ {vs : List V} {ds : List D} {fp : List Addr} {k : Nat} {d : D}, OwA K C F H s vs ds fp → ds[k]? = some d →
    ∃ (v : V) (fa fb : List Addr), vs[k]? = some v ∧ Ow K C F H s v d fa ∧ (∀ a, a ∈ fp ↔ a ∈ fa ∨ a ∈ fb) ∧ (∀ a ∈ fa, a ∉ fb) ∧
      ∀ (F' H' : Hp) (v' : V) (d' : D) (fq : List Addr), Same F F' → (∀ a ∈ fb, H' a = H a) → Ow K C F' H' s v' d' fq → (∀ a ∈ fq, a ∉ fb) → ∃ fr, (∀ a, a ∈ fr ↔ a ∈ fq ∨ a ∈ fb) ∧ OwA K C F' H' s (vs.set k v') (ds.set k d') fr
  | _, _, _, _, _, .nil, e => by simp at e
  | _, _, _, 0, _, .cons (fp := fa) (fq := fb) a b n, e => by
    simp at e; subst e
    exact ⟨_, fa, fb, rfl, a, fun x => List.mem_append, n, fun F' H' v' d' fq f g w m => ⟨fq ++ fb, fun x => List.mem_append, .cons w (b.mono f g) m⟩⟩
  | _, _, _, k + 1, _, .cons (fp := fc) (fq := fd) a b n, e => by
    obtain ⟨v, fa, fb, h1, h2, h3, h4, h5⟩ := OwA.focus (k := k) b (by simpa using e)
    refine ⟨v, fa, fc ++ fb, by simpa using h1, h2, fun x => ?_, fun x hx hy => ?_, fun F' H' v' d' fq f g w m => ?_⟩
    · simp only [List.mem_append, h3]
      constructor
      · rintro (h | h | h)
        · exact .inr (.inl h)
        · exact .inl h
        · exact .inr (.inr h)
      · rintro (h | h | h)
        · exact .inr (.inl h)
        · exact .inl h
        · exact .inr (.inr h)
    · rcases List.mem_append.mp hy with h | h
      · exact n x h ((h3 x).mpr (.inl hx))
      · exact h4 x hx h
    · obtain ⟨fr, q1, q2⟩ := h5 F' H' v' d' fq f (fun x hx => g x (mem_r hx)) w fun x hx hy => m x hx (mem_r hy)
      refine ⟨fc ++ fr, fun x => ?_, .cons (a.mono f fun x hx => g x (mem_l hx)) q2 fun x hx hy => ?_⟩
      · simp only [List.mem_append, q1]
        constructor
        · rintro (h | h | h)
          · exact .inr (.inl h)
          · exact .inl h
          · exact .inr (.inr h)
        · rintro (h | h | h)
          · exact .inr (.inl h)
          · exact .inl h
          · exact .inr (.inr h)
      · rcases (q1 x).mp hy with h | h
        · exact m x h (mem_l hx)
        · exact n x hx ((h3 x).mpr (.inr h))
end
end Tx

set_option Elab.async false
set_option linter.all false
set_option maxRecDepth 100000
set_option maxHeartbeats 4000000
/-! A4: the slots of a def; a part of what is owned, and another in its place. -/
namespace Tx
open PySem L2 En

/-- how a slot holds its value: data of the frozen part; borrowed; owned (its root, where it is told) -/
inductive Md where
  | fz
  | bw (s : Sh) (r : Option V)
  | ow (s : Sh) (r : Option V)
inductive Sl where
  | un
  | vl (m : Md) (d : D)
abbrev Env := Nat → Sl
def e0 : Env := fun _ => .un
def se (ρ : Env) (i : Nat) (x : Sl) : Env := fun j => bif Nat.beq j i then x else ρ j
theorem se_same (ρ : Env) (i : Nat) (x : Sl) : se ρ i x i = x := by simp [se]
theorem se_ne (ρ : Env) {i j : Nat} (x : Sl) (h : j ≠ i) : se ρ i x j = ρ j := by
  have e : Nat.beq j i = false := by
    cases q : Nat.beq j i with
    | false => rfl
    | true => exact (h (Nat.eq_of_beq_eq_true q)).elim
  simp [se, e]
def fset (g : Nat → List Addr) (i : Nat) (p : List Addr) : Nat → List Addr := fun j => if j = i then p else g j
theorem fset_same (g : Nat → List Addr) (i : Nat) (p : List Addr) : fset g i p i = p := if_pos rfl
theorem fset_ne (g : Nat → List Addr) {i j : Nat} (p : List Addr) (h : j ≠ i) : fset g i p j = g j := if_neg h
def hid (H : Hp) (fp : List Addr) : Hp := fun a => if a ∈ fp then none else H a
theorem hid_in {H : Hp} {fp : List Addr} {a : Addr} (h : a ∈ fp) : hid H fp a = none := if_pos h
theorem hid_out {H : Hp} {fp : List Addr} {a : Addr} (h : a ∉ fp) : hid H fp a = H a := if_neg h
theorem hid_le (H : Hp) (fp : List Addr) : Same (hid H fp) H := fun a o h => by
  by_cases y : a ∈ fp
  · rw [hid_in y] at h; cases h
  · rw [hid_out y] at h; exact h
section
variable (K : PySem.W.Frag) (C : Rc) (H0 F H : Hp)
def ValM : Md → V → D → List Addr → Prop
  | .fz, v, d, fp => fp = [] ∧ Rp K C F v d
  | .bw s r, v, d, fp => (∀ u, r = some u → v = u) ∧ Ow K C F H s v d fp ∧ ∀ a ∈ fp, F a = none ∧ ∃ o, H0 a = some o
  | .ow s r, v, d, fp => (∀ u, r = some u → v = u) ∧ Ow K C F H s v d fp ∧ ∀ a ∈ fp, F a = none ∧ H0 a = none
structure EnvS (L : Nat) (σ : L2.St) (ρ : Env) : Prop where
  same : Same H0 H
  sub : Same F H
  len : σ.length = L
  sl : ∃ fp : Nat → List Addr, (∀ i m d, ρ i = .vl m d → ∃ v, σ[i]? = some (some v) ∧ ValM K C H0 F H m v d (fp i)) ∧
    ∀ i j s r d t q e, i ≠ j → ρ i = .vl (.ow s r) d → ρ j = .vl (.ow t q) e → ∀ a ∈ fp i, a ∉ fp j
end
/-- a slot's part in the heap of a caller: all that stands in H is new to it -/
def Le (ρ' ρ : Env) : Prop := ∀ i, ρ' i = .un ∨ ρ' i = ρ i
theorem Le.refl (ρ : Env) : Le ρ ρ := fun _ => .inr rfl
theorem Le.e0 {ρ : Env} : Le e0 ρ := fun _ => .inl rfl
theorem Le.se {ρ' ρ : Env} {i : Nat} {x : Sl} (h : Le ρ' ρ) (e : ρ i = x) : Le (se ρ' i x) ρ := fun j => by
  by_cases q : j = i
  · subst q; rw [se_same]; exact .inr e.symm
  · rw [se_ne _ _ q]; exact h j
/-- all that may be read, as frozen -/
def fzA (ρ : Env) : Env := fun i => match ρ i with
  | .un => .un
  | .vl _ d => .vl .fz d
section
variable {K : PySem.W.Frag} {C : Rc} {H0 F F' H H' : Hp} {L : Nat} {σ : L2.St} {ρ ρ' : Env} {i : Nat} {s : Sh} {v : V} {d : D} {r : Option V} {fp : List Addr}
theorem ValM.grow (k : ∀ a ∈ fp, ∃ o, H a = some o) (m : Md) (h : ValM K C H0 F H m v d fp) (sm : Same H H') (x : Ext F H F') : ValM K C H0 F' H' m v d fp := by
  have keep : ∀ a ∈ fp, F a = none → F' a = none ∧ H' a = H a := fun a ha fa => by
    obtain ⟨o, e⟩ := k a ha
    exact ⟨x.out e fa, (sm a o e).trans e.symm⟩
  cases m with
  | fz => exact ⟨h.1, h.2.up x.up⟩
  | bw s r =>
    obtain ⟨e, w, n⟩ := h
    exact ⟨e, w.mono x.up fun a ha => (keep a ha (n a ha).1).2, fun a ha => ⟨(keep a ha (n a ha).1).1, (n a ha).2⟩⟩
  | ow s r =>
    obtain ⟨e, w, n⟩ := h
    exact ⟨e, w.mono x.up fun a ha => (keep a ha (n a ha).1).2, fun a ha => ⟨(keep a ha (n a ha).1).1, (n a ha).2⟩⟩
theorem ValM.live {m : Md} (h : ValM K C H0 F H m v d fp) : ∀ a ∈ fp, ∃ o, H a = some o := by
  cases m with
  | fz => intro a ha; rw [h.1] at ha; cases ha
  | bw s r => exact h.2.1.live
  | ow s r => exact h.2.1.live
theorem ValM.rp (m : Md) (h : ValM K C H0 F H m v d fp) (sb : Same F H) : Rp K C H v d := by
  cases m with
  | fz => exact h.2.up sb
  | bw s r => exact h.2.1.rp sb fun _ _ => rfl
  | ow s r => exact h.2.1.rp sb fun _ _ => rfl
/-- the heap has grown, the frozen part with it -/
theorem EnvS.grow (k : EnvS K C H0 F H L σ ρ) (sm : Same H H') (x : Ext F H F') (sb : Same F' H') : EnvS K C H0 F' H' L σ ρ := by
  obtain ⟨fp, o1, o2⟩ := k.sl
  refine ⟨k.same.trans sm, sb, k.len, fp, fun i m d e => ?_, o2⟩
  obtain ⟨v, h1, h2⟩ := o1 i m d e
  exact ⟨v, h1, h2.grow h2.live m sm x⟩
theorem EnvS.heap (k : EnvS K C H0 F H L σ ρ) (sm : Same H H') : EnvS K C H0 F H' L σ ρ := k.grow sm (Ext.refl F H) (k.sub.trans sm)
theorem EnvS.le (k : EnvS K C H0 F H L σ ρ) (h : Le ρ' ρ) : EnvS K C H0 F H L σ ρ' := by
  obtain ⟨fp, o1, o2⟩ := k.sl
  have up : ∀ i m d, ρ' i = .vl m d → ρ i = .vl m d := fun i m d e => by
    rcases h i with q | q
    · rw [q] at e; cases e
    · rw [← q]; exact e
  exact ⟨k.same, k.sub, k.len, fp, fun i m d e => o1 i m d (up i m d e), fun i j s r d t q e n h1 h2 => o2 i j s r d t q e n (up _ _ _ h1) (up _ _ _ h2)⟩
theorem EnvS.all (k : EnvS K C H0 F H L σ ρ) : EnvS K C H H H L σ (fzA ρ) := by
  obtain ⟨fp, o1, o2⟩ := k.sl
  have nf : ∀ i m d, fzA ρ i = .vl m d → m = .fz ∧ ∃ m', ρ i = .vl m' d := fun i m d e => by
    unfold fzA at e
    split at e
    · cases e
    · rename_i m' d' q
      cases e
      exact ⟨rfl, m', q⟩
  refine ⟨Same.refl H, Same.refl H, k.len, fun _ => [], fun i m d e => ?_, fun i j s r d t q e n h1 h2 => ?_⟩
  · obtain ⟨e1, m', e2⟩ := nf i m d e
    subst e1
    obtain ⟨v, h1, h2⟩ := o1 i m' d e2
    exact ⟨v, h1, rfl, h2.rp m' k.sub⟩
  · cases (nf i _ d h1).1
/-- data to a slot -/
theorem EnvS.set (k : EnvS K C H0 F H L σ ρ) (hi : i < L) (rp : Rp K C F v d) : EnvS K C H0 F H L (σ.set i (some v)) (se ρ i (.vl .fz d)) := by
  obtain ⟨fp, o1, o2⟩ := k.sl
  refine ⟨k.same, k.sub, by rw [List.length_set]; exact k.len, fset fp i [], fun j m e q => ?_, fun a b s r d t q e n h1 h2 x hx => ?_⟩
  · by_cases z : j = i
    · subst z
      rw [se_same] at q
      cases q
      exact ⟨v, List.getElem?_set_self (by rw [k.len]; exact hi), fset_same _ _ _, rp⟩
    · rw [se_ne _ _ z] at q
      rw [List.getElem?_set_ne (Ne.symm z), fset_ne _ _ z]
      exact o1 j m e q
  · have na : a ≠ i := fun z => by subst z; rw [se_same] at h1; cases h1
    have nb : b ≠ i := fun z => by subst z; rw [se_same] at h2; cases h2
    rw [se_ne _ _ na] at h1
    rw [se_ne _ _ nb] at h2
    rw [fset_ne _ _ na] at hx
    rw [fset_ne _ _ nb]
    exact o2 a b s r d t q e n h1 h2 x hx
/-- what is new to a slot -/
theorem EnvS.setN (k : EnvS K C H0 F H L σ ρ) (hi : i < L) (sm : Same H H') (x : Ext F H F') (sb : Same F' H') (w : Ow K C F' H' s v d fp) (hn : ∀ a ∈ fp, H a = none ∧ F' a = none) : EnvS K C H0 F' H' L (σ.set i (some v)) (se ρ i (.vl (.ow s none) d)) := by
  obtain ⟨gp, o1, o2⟩ := k.sl
  have k2 := k.grow sm x sb
  have old : ∀ j m e, j ≠ i → ρ j = .vl m e → ∀ a ∈ gp j, ∃ o, H a = some o := fun j m e _ q => by
    obtain ⟨u, h1, h2⟩ := o1 j m e q
    exact h2.live
  refine ⟨k2.same, sb, by rw [List.length_set]; exact k.len, fset gp i fp, fun j m e q => ?_, fun a b s r d t q e n h1 h2 y hy => ?_⟩
  · by_cases z : j = i
    · subst z
      rw [se_same] at q
      cases q
      refine ⟨v, List.getElem?_set_self (by rw [k.len]; exact hi), (fun u h => by cases h), ?_, ?_⟩
      · rw [fset_same]; exact w
      · rw [fset_same]; exact fun a ha => ⟨(hn a ha).2, none_back k.same (hn a ha).1⟩
    · rw [se_ne _ _ z] at q
      rw [List.getElem?_set_ne (Ne.symm z), fset_ne _ _ z]
      obtain ⟨u, h1, h2⟩ := o1 j m e q
      exact ⟨u, h1, h2.grow h2.live m sm x⟩
  · by_cases za : a = i
    · have zb : b ≠ i := fun z => n (za.trans z.symm)
      subst za; rw [fset_same] at hy
      rw [fset_ne _ _ zb]
      rw [se_ne _ _ zb] at h2
      intro hz
      obtain ⟨o, e'⟩ := old b _ _ zb h2 y hz
      rw [(hn y hy).1] at e'
      cases e'
    · rw [fset_ne _ _ za] at hy
      rw [se_ne _ _ za] at h1
      by_cases zb : b = i
      · subst zb; rw [fset_same]
        intro hz
        obtain ⟨o, e'⟩ := old a _ _ za h1 y hy
        rw [(hn y hz).1] at e'
        cases e'
      · rw [fset_ne _ _ zb]
        rw [se_ne _ _ zb] at h2
        exact o2 a b s r d t q e n h1 h2 y hy
/-- what is told of a slot that owns its value -/
structure Own (K : PySem.W.Frag) (C : Rc) (H0 F H : Hp) (L : Nat) (σ : L2.St) (ρ : Env) (i : Nat) (s : Sh) (r : Option V) (d : D) (v : V) (fp : List Addr) : Prop where
  at_ : σ[i]? = some (some v)
  rt : ∀ u, r = some u → v = u
  ow : Ow K C F H s v d fp
  fre : ∀ a ∈ fp, F a = none ∧ H0 a = none
  /-- another in its place, at the same root -/
  put : ∀ (F1 H1 F' H' : Hp) (s' : Sh) (d' : D) (fp' : List Addr), Same H H1 → Ext F H F1 → Same F1 H1 → Same (hid H1 fp) H' → Same F' H' → Ext F1 (hid H1 fp) F' → Ow K C F' H' s' v d' fp' → (∀ a ∈ fp', hid H1 fp a = none ∧ F' a = none) →
    EnvS K C H0 F' H' L σ (se ρ i (.vl (.ow s' r) d'))
  /-- it is taken out -/
  out : EnvS K C H0 F H L σ (se ρ i .un)
theorem hid_same (k : Same H0 H) (n : ∀ a ∈ fp, H0 a = none) : Same H0 (hid H fp) := fun a o e => by
  rw [hid_out fun h => by rw [n a h] at e; cases e]
  exact k a o e
theorem EnvS.own (k : EnvS K C H0 F H L σ ρ) (hi : ρ i = .vl (.ow s r) d) : ∃ v fp, Own K C H0 F H L σ ρ i s r d v fp := by
  obtain ⟨gp, o1, o2⟩ := k.sl
  obtain ⟨v, h1, h2, h3, h4⟩ := o1 i _ d hi
  refine ⟨v, gp i, h1, h2, h3, h4, fun F1 H1 F' H' s' d' fp' s1 x1 sb1 s2 sb' x2 w n => ?_, ?_⟩
  · have oth : ∀ j m e, j ≠ i → ρ j = .vl m e → ∀ a ∈ gp j, a ∉ gp i := fun j m e nj q a ha hb => by
      obtain ⟨u, _, q2⟩ := o1 j m e q
      cases m with
      | fz => rw [q2.1] at ha; cases ha
      | bw t q' =>
        obtain ⟨_, o, e'⟩ := q2.2.2 a ha
        rw [(h4 a hb).2] at e'; cases e'
      | ow t q' => exact o2 j i t q' e s r d nj q hi a ha hb
    refine ⟨(hid_same (k.same.trans s1) fun a ha => (h4 a ha).2).trans s2, sb', k.len, fset gp i fp', fun j m e q => ?_, fun a b s r d t q e n' e1 e2 y hy => ?_⟩
    · by_cases z : j = i
      · subst z
        rw [se_same] at q
        cases q
        refine ⟨v, h1, h2, ?_, ?_⟩
        · rw [fset_same]; exact w
        · rw [fset_same]
          exact fun a ha => ⟨(n a ha).2, none_back (hid_same (k.same.trans s1) fun a ha => (h4 a ha).2) (n a ha).1⟩
      · rw [se_ne _ _ z] at q
        rw [fset_ne _ _ z]
        obtain ⟨u, q1, q2⟩ := o1 j m e q
        have g := q2.grow q2.live m s1 x1
        have out := oth j m e z q
        refine ⟨u, q1, ?_⟩
        have liv : ∀ a ∈ gp j, ∃ o, hid H1 (gp i) a = some o := fun a ha => by
          obtain ⟨o, e'⟩ := q2.live a ha
          exact ⟨o, by rw [hid_out (out a ha)]; exact s1 a o e'⟩
        have g2 : ValM K C H0 F1 (hid H1 (gp i)) m u e (gp j) := by
          cases m with
          | fz => exact g
          | bw t q' => exact ⟨g.1, g.2.1.mono (Same.refl F1) fun a ha => hid_out (out a ha), g.2.2⟩
          | ow t q' => exact ⟨g.1, g.2.1.mono (Same.refl F1) fun a ha => hid_out (out a ha), g.2.2⟩
        exact g2.grow liv m s2 x2
    · by_cases za : a = i
      · have zb : b ≠ i := fun z => n' (za.trans z.symm)
        subst za; rw [fset_same] at hy
        rw [fset_ne _ _ zb]
        rw [se_ne _ _ zb] at e2
        intro hz
        obtain ⟨u, _, q2⟩ := o1 b _ _ e2
        obtain ⟨o, e'⟩ := q2.live y hz
        have nn := (n y hy).1
        rw [hid_out (oth b _ _ zb e2 y hz), s1 y o e'] at nn
        cases nn
      · rw [fset_ne _ _ za] at hy
        rw [se_ne _ _ za] at e1
        by_cases zb : b = i
        · subst zb; rw [fset_same]
          intro hz
          obtain ⟨u, _, q2⟩ := o1 a _ _ e1
          obtain ⟨o, e'⟩ := q2.live y hy
          have nn := (n y hz).1
          rw [hid_out (oth a _ _ za e1 y hy), s1 y o e'] at nn
          cases nn
        · rw [fset_ne _ _ zb]
          rw [se_ne _ _ zb] at e2
          exact o2 a b s r d t q e n' e1 e2 y hy
  · exact k.le fun j => by
      by_cases z : j = i
      · subst z; exact .inl (se_same _ _ _)
      · exact .inr (se_ne _ _ z)
/-- a slot that owns its value is frozen -/
theorem EnvS.frz (k : EnvS K C H0 F H L σ ρ) (hi : ρ i = .vl (.ow s r) d) : ∃ F', Same F F' ∧ Ext F H0 F' ∧ EnvS K C H0 F' H L σ (se ρ i (.vl .fz d)) := by
  obtain ⟨gp, o1, o2⟩ := k.sl
  obtain ⟨v, h1, h2, h3, h4⟩ := o1 i _ d hi
  let F' : Hp := fun a => if a ∈ gp i then H a else F a
  have inF : ∀ a ∈ gp i, F' a = H a := fun a h => if_pos h
  have outF : ∀ a, a ∉ gp i → F' a = F a := fun a h => if_neg h
  have s1 : Same F F' := fun a u z => by
    by_cases y : a ∈ gp i
    · rw [(h4 a y).1] at z; cases z
    · rw [outF a y]; exact z
  have sb : Same F' H := fun a u z => by
    by_cases y : a ∈ gp i
    · rw [inF a y] at z; exact z
    · rw [outF a y] at z; exact k.sub a u z
  refine ⟨F', s1, ⟨s1, fun a u z => ?_⟩, k.same, sb, k.len, fset gp i [], fun j m e q => ?_, fun a b s r d t q e n e1 e2 y hy => ?_⟩
  · by_cases y : a ∈ gp i
    · exact .inr (h4 a y).2
    · rw [outF a y] at z; exact .inl ⟨u, z⟩
  · by_cases z : j = i
    · subst z
      rw [se_same] at q
      cases q
      exact ⟨v, h1, fset_same _ _ _, h3.rp s1 inF⟩
    · rw [se_ne _ _ z] at q
      rw [fset_ne _ _ z]
      obtain ⟨u, q1, q2⟩ := o1 j m e q
      refine ⟨u, q1, ?_⟩
      have out : ∀ a ∈ gp j, F' a = F a := fun a ha => outF a fun hb => by
        cases m with
        | fz => rw [q2.1] at ha; cases ha
        | bw t q' =>
          obtain ⟨_, o, e'⟩ := q2.2.2 a ha
          rw [(h4 a hb).2] at e'; cases e'
        | ow t q' => exact o2 j i t q' e s r d z q hi a ha hb
      cases m with
      | fz => exact ⟨q2.1, q2.2.up s1⟩
      | bw t q' => exact ⟨q2.1, q2.2.1.mono s1 fun _ _ => rfl, fun a ha => ⟨(out a ha).trans (q2.2.2 a ha).1, (q2.2.2 a ha).2⟩⟩
      | ow t q' => exact ⟨q2.1, q2.2.1.mono s1 fun _ _ => rfl, fun a ha => ⟨(out a ha).trans (q2.2.2 a ha).1, (q2.2.2 a ha).2⟩⟩
  · have na : a ≠ i := fun z => by subst z; rw [se_same] at e1; cases e1
    have nb : b ≠ i := fun z => by subst z; rw [se_same] at e2; cases e2
    rw [se_ne _ _ na] at e1
    rw [se_ne _ _ nb] at e2
    rw [fset_ne _ _ na] at hy
    rw [fset_ne _ _ nb]
    exact o2 a b s r d t q e n e1 e2 y hy
/-- what of the slots stands when a loan ends -/
def Back (i : Nat) (ρ ρ' ρ2 : Env) : Prop := ∀ j, j ≠ i → ρ2 j = .un ∨ (ρ2 j = ρ' j ∧ ∀ s r d, ρ' j ≠ .vl (.bw s r) d) ∨ ∃ s v d, ρ2 j = .vl (.bw s (some v)) d ∧ ρ j = .vl (.bw s (some v)) d ∧ ρ' j = .vl (.bw s (some v)) d
/-- a slot's value is lent: it stands in the base heap -/
theorem EnvS.lend (k : EnvS K C H0 F H L σ ρ) (hi : ρ i = .vl (.ow s r) d) : ∃ (v : V) (H1 : Hp), (∀ u, r = some u → v = u) ∧ Same H0 H1 ∧ EnvS K C H1 F H L σ (se ρ i (.vl (.bw s (some v)) d)) ∧
    ∀ (F' H' : Hp) (σ' : L2.St) (ρ' ρ2 : Env), EnvS K C H1 F' H' L σ' ρ' → Ext F H1 F' → ρ' i = .vl (.bw s (some v)) d → ρ2 i = .vl (.ow s r) d → Back i ρ ρ' ρ2 → EnvS K C H0 F' H' L σ' ρ2 ∧ Ext F H0 F' := by
  obtain ⟨gp, o1, o2⟩ := k.sl
  obtain ⟨v, h1, h2, h3, h4⟩ := o1 i _ d hi
  let H1 : Hp := fun a => if a ∈ gp i then H a else H0 a
  have inH : ∀ a ∈ gp i, H1 a = H a := fun a h => if_pos h
  have outH : ∀ a, a ∉ gp i → H1 a = H0 a := fun a h => if_neg h
  have s01 : Same H0 H1 := fun a u z => by
    by_cases y : a ∈ gp i
    · rw [(h4 a y).2] at z; cases z
    · rw [outH a y]; exact z
  have s1 : Same H1 H := fun a u z => by
    by_cases y : a ∈ gp i
    · rw [inH a y] at z; exact z
    · rw [outH a y] at z; exact k.same a u z
  have ext0 : ∀ {F' : Hp}, Ext F H1 F' → Ext F H0 F' := fun x => ⟨x.up, fun a u z => (x.new a u z).imp id fun n => none_back s01 n⟩
  refine ⟨v, H1, h2, s01, ⟨s1, k.sub, k.len, gp, fun j m e q => ?_, fun a b s r d t q e n e1 e2 y hy => ?_⟩, fun F' H' σ' ρ' ρ2 k' x hb hb2 bk => ⟨?_, ext0 x⟩⟩
  · by_cases z : j = i
    · subst z
      rw [se_same] at q
      cases q
      exact ⟨v, h1, (fun u e => by cases e; rfl), h3, fun a ha => ⟨(h4 a ha).1, by rw [inH a ha]; exact h3.live a ha⟩⟩
    · rw [se_ne _ _ z] at q
      obtain ⟨u, q1, q2⟩ := o1 j m e q
      refine ⟨u, q1, ?_⟩
      cases m with
      | fz => exact q2
      | bw t q' => exact ⟨q2.1, q2.2.1, fun a ha => ⟨(q2.2.2 a ha).1, by
          obtain ⟨o, e'⟩ := (q2.2.2 a ha).2
          exact ⟨o, s01 a o e'⟩⟩⟩
      | ow t q' => exact ⟨q2.1, q2.2.1, fun a ha => ⟨(q2.2.2 a ha).1, by
          rw [outH a (o2 j i t q' e s r d z q hi a ha)]
          exact (q2.2.2 a ha).2⟩⟩
  · have na : a ≠ i := fun z => by subst z; rw [se_same] at e1; cases e1
    have nb : b ≠ i := fun z => by subst z; rw [se_same] at e2; cases e2
    rw [se_ne _ _ na] at e1
    rw [se_ne _ _ nb] at e2
    exact o2 a b s r d t q e n e1 e2 y hy
  · obtain ⟨hp, p1, p2⟩ := k'.sl
    obtain ⟨v', z1, z2, z3, z4⟩ := p1 i _ d hb
    have ev := z2 v rfl
    subst ev
    -- what was lent or borrowed lies as it did
    have old : ∀ (t : Sh) (w : V) (e : D) (fq : List Addr), Ow K C F H t w e fq → (∀ a ∈ fq, F a = none ∧ ∃ o, H1 a = some o ∧ H a = some o) → Ow K C F' H' t w e fq ∧ ∀ a ∈ fq, F' a = none := fun t w e fq ow n =>
      ⟨ow.mono x.up fun a ha => by
        obtain ⟨_, o, e1, e2⟩ := n a ha
        exact (k'.same a o e1).trans e2.symm, fun a ha => by
        cases q : F' a with
        | none => rfl
        | some u =>
          obtain ⟨n1, o, e1, _⟩ := n a ha
          rcases x.new a u q with ⟨_, z⟩ | z
          · rw [n1] at z; cases z
          · rw [e1] at z; cases z⟩
    obtain ⟨w, fn⟩ := old s v' d (gp i) h3 fun a ha => by
      obtain ⟨o, e'⟩ := h3.live a ha
      exact ⟨(h4 a ha).1, o, (inH a ha).trans e', e'⟩
    let fp2 : Nat → List Addr := fun j => if j = i then gp i else (match ρ2 j with | .vl (.bw _ _) _ => gp j | _ => hp j)
    have fpi : fp2 i = gp i := if_pos rfl
    have fpb : ∀ j s r d, j ≠ i → ρ2 j = .vl (.bw s r) d → fp2 j = gp j := fun j s r d n e => by
      show (if j = i then gp i else _) = _
      rw [if_neg n, e]
    have fpo : ∀ j, j ≠ i → (∀ s r d, ρ2 j ≠ .vl (.bw s r) d) → fp2 j = hp j := fun j n e => by
      show (if j = i then gp i else _) = _
      rw [if_neg n]
      split
      · rename_i s r d q
        exact (e s r d q).elim
      · rfl
    refine ⟨s01.trans k'.same, k'.sub, k'.len, fp2, fun j m e q => ?_, fun a b s r d t q e n e1 e2 y hy => ?_⟩
    · by_cases z : j = i
      · subst z
        rw [hb2] at q
        cases q
        refine ⟨v', z1, h2, ?_⟩
        rw [fpi]
        exact ⟨w, fun a ha => ⟨fn a ha, (h4 a ha).2⟩⟩
      · rcases bk j z with q0 | ⟨q0, nb⟩ | ⟨t, v2, e2, q1, q2, q3⟩
        · rw [q0] at q; cases q
        · have nb2 : ∀ s r d, ρ2 j ≠ .vl (.bw s r) d := fun s r d h => nb s r d (q0 ▸ h)
          rw [fpo j z nb2]
          rw [q0] at q
          obtain ⟨u, y1, y2⟩ := p1 j m e q
          refine ⟨u, y1, ?_⟩
          cases m with
          | fz => exact y2
          | bw t q' => exact (nb _ _ _ q).elim
          | ow t q' => exact ⟨y2.1, y2.2.1, fun a ha => ⟨(y2.2.2 a ha).1, none_back s01 (y2.2.2 a ha).2⟩⟩
        · rw [q1] at q
          cases q
          rw [fpb j _ _ _ z q1]
          obtain ⟨u, y1, y2⟩ := o1 j _ _ q2
          obtain ⟨u', y1', y2'⟩ := p1 j _ _ q3
          have ee := y2'.1 v2 rfl
          have ee2 := y2.1 v2 rfl
          subst ee
          subst ee2
          obtain ⟨w2, n2⟩ := old _ _ _ (gp j) y2.2.1 fun a ha => by
            obtain ⟨n1, o, e'⟩ := y2.2.2 a ha
            exact ⟨n1, o, s01 a o e', k.same a o e'⟩
          exact ⟨_, y1', y2'.1, w2, fun a ha => ⟨n2 a ha, (y2.2.2 a ha).2⟩⟩
    · have oth : ∀ j t q e, j ≠ i → ρ2 j = .vl (.ow t q) e → ρ' j = .vl (.ow t q) e ∧ fp2 j = hp j := fun j t q e z h => by
        refine ⟨?_, fpo j z fun s r d hh => by rw [h] at hh; cases hh⟩
        rcases bk j z with q0 | ⟨q0, _⟩ | ⟨_, _, _, q1, _, _⟩
        · rw [q0] at h; cases h
        · rw [← q0]; exact h
        · rw [q1] at h; cases h
      have sep : ∀ j t q e, j ≠ i → ρ2 j = .vl (.ow t q) e → ∀ y ∈ gp i, y ∉ hp j := fun j t q e z h y hy hz => by
        obtain ⟨h', _⟩ := oth j t q e z h
        obtain ⟨u, _, y2⟩ := p1 j _ _ h'
        have n0 := (y2.2.2 y hz).2
        obtain ⟨o, e'⟩ := h3.live y hy
        rw [inH y hy, e'] at n0
        cases n0
      by_cases za : a = i
      · have zb : b ≠ i := fun z => n (za.trans z.symm)
        subst za
        rw [fpi] at hy
        rw [(oth b _ _ _ zb e2).2]
        exact sep b _ _ _ zb e2 y hy
      · rw [(oth a _ _ _ za e1).2] at hy
        by_cases zb : b = i
        · subst zb
          rw [fpi]
          exact fun hz => sep a _ _ _ za e1 y hz hy
        · rw [(oth b _ _ _ zb e2).2]
          exact p2 a b s r d t q e n (oth a _ _ _ za e1).1 (oth b _ _ _ zb e2).1 y hy
end
end Tx

set_option Elab.async false
set_option linter.all false
set_option maxRecDepth 100000
set_option maxHeartbeats 4000000
/-! A5: operators and built-ins on data, and what they ask of the heap. -/
namespace Tx
open PySem L2 En

/-! ### operators on data -/
def intD2 (f : Int → Int → D) : D → D → R D
  | .int i, .int j => .ok (f i j)
  | _, _ => .no
def addD : D → D → R D := intD2 fun i j => .int (i + j)
def subD : D → D → R D := intD2 fun i j => .int (i - j)
def intR (g : Int → Int → R Int) : D → D → R D
  | .int i, .int j => (g i j).map .int
  | _, _ => .no
def mulD : D → D → R D := intR mulR
def divD : D → D → R D := intR divR
def modD : D → D → R D := intR modR
def powD : D → D → R D := intR powR
def negD : D → R D
  | .int i => .ok (.int (-i))
  | _ => .no
def ltD : D → D → R D := intD2 fun i j => .bool (decide (i < j))
def leD : D → D → R D := intD2 fun i j => .bool (decide (i ≤ j))
def gtD : D → D → R D := intD2 fun i j => .bool (decide (j < i))
def geD : D → D → R D := intD2 fun i j => .bool (decide (j ≤ i))
def eqV2 (x y : D) : R D := (eqD x y).map .bool
def neV2 (x y : D) : R D := (eqD x y).map fun b => .bool (!b)
def isNoneD : D → D → R D
  | .none, .none => .ok (.bool true)
  | _, .none => .ok (.bool false)
  | _, _ => .no
def isNotNoneD : D → D → R D
  | .none, .none => .ok (.bool false)
  | _, .none => .ok (.bool true)
  | _, _ => .no
/-- x is True -/
def isBoolD : D → D → R D
  | .bool a, .bool b => .ok (.bool (a == b))
  | _, _ => .no
def catD : D → D → R D
  | .list xs, .list ys => if xs.length + ys.length ≤ big then .ok (.list (xs ++ ys)) else .no
  | _, _ => .no
def repD : D → D → R D
  | .list xs, .int k => if -(2 ^ 63) ≤ k ∧ k < 2 ^ 63 ∧ xs.length * k.toNat ≤ big then .ok (.list (List.replicate k.toNat xs).flatten) else .no
  | _, _ => .no
def catTD : D → D → R D
  | .tuple xs, .tuple ys => if xs.length + ys.length ≤ big ∧ xs ≠ [] ∧ ys ≠ [] then .ok (.tuple (xs ++ ys)) else .no
  | _, _ => .no
def itemAt (xs : List D) (i : Int) : R D := ixR xs i
def ixD : D → D → R D
  | .list xs, .int i => itemAt xs i
  | .tuple xs, .int i => itemAt xs i
  | _, _ => .no
def inD (x : D) : D → R D
  | .list xs => if flatD x && xs.all flatD then .ok (.bool (xs.any fun y => eqF y x)) else .no
  | .tuple xs => if flatD x && xs.all flatD then .ok (.bool (xs.any fun y => eqF y x)) else .no
  | _ => .no
def notInD (x : D) : D → R D
  | .list xs => if flatD x && xs.all flatD then .ok (.bool (!xs.any fun y => eqF y x)) else .no
  | .tuple xs => if flatD x && xs.all flatD then .ok (.bool (!xs.any fun y => eqF y x)) else .no
  | _ => .no
/-! ### built-ins on data -/
def fLen : List D → R D
  | [.list xs] => .ok (.int xs.length)
  | [.tuple xs] => .ok (.int xs.length)
  | _ => .no
def fAbs : List D → R D
  | [.int i] => .ok (.int (if i < 0 then -i else i))
  | _ => .no
def fMax2 : List D → R D
  | [.int i, .int j] => .ok (.int (if j > i then j else i))
  | _ => .no
def fMin2 : List D → R D
  | [.int i, .int j] => .ok (.int (if j < i then j else i))
  | _ => .no
def fInt : List D → R D
  | [.int i] => .ok (.int i)
  | [.bool b] => .ok (.int (if b then 1 else 0))
  | _ => .no
def fList : List D → R D
  | [.list xs] => .ok (.list xs)
  | [.tuple xs] => .ok (.list xs)
  | _ => .no
def fTuple : List D → R D
  | [.list xs] => .ok (.tuple xs)
  | [.tuple xs] => .ok (.tuple xs)
  | _ => .no
def asInts : List D → Option (List Int)
  | [] => some []
  | .int i :: r => (asInts r).map (i :: ·)
  | _ :: _ => none
def asBools : List D → Option (List Bool)
  | [] => some []
  | .bool i :: r => (asBools r).map (i :: ·)
  | _ :: _ => none
def fSum : List D → R D
  | [.list xs] => (match asInts xs with
    | some ns => .ok (.int ns.sum)
    | none => .no)
  | _ => .no
def fAny : List D → R D
  | [.list xs] => (match asBools xs with
    | some bs => .ok (.bool (bs.any id))
    | none => .no)
  | _ => .no
def fAll : List D → R D
  | [.list xs] => (match asBools xs with
    | some bs => .ok (.bool (bs.all id))
    | none => .no)
  | _ => .no
def fSorted : List D → R D
  | [.list xs] => (match asInts xs with
    | some ns => .ok (.list ((sortI ns).map .int))
    | none => .no)
  | _ => .no
def fGcd : List D → R D
  | [.int a, .int b] => .ok (.int (gcdI a b))
  | _ => .no
def fRepr : List D → R D
  | [d] => (reprR d).map .str
  | _ => .no
def fIsBool : List D → R D
  | [.bool _] => .ok (.bool true)
  | [_] => .ok (.bool false)
  | _ => .no
def fIsList : List D → R D
  | [.list _] => .ok (.bool true)
  | [_] => .ok (.bool false)
  | _ => .no

/-- isinstance against a built-in type -/
def tyD : D → Option String
  | .none => some "NoneType"
  | .bool _ => some "bool"
  | .int _ => some "int"
  | .str _ => some "str"
  | .list _ => some "list"
  | .tuple _ => some "tuple"
  | .dict _ => none
def subT (t T : String) : Bool := t == T || (t == "bool" && T == "int")
def isiD (T : String) (d : D) : R D := match tyD d with
  | some t => .ok (.bool (subT t T))
  | none => .no

theorem hd_map {α β : Type} {E : XK} {W : Vp} {H : Hp} {r : R α} {f : α → β} {k : β → Prop} (h : Hd E W H (r.map f) k) : Hd E W H r fun a => k (f a) := by
  cases r with
  | ok a => exact h
  | ex c => exact h
  | no => exact h
theorem hd_unmap {α β : Type} {E : XK} {W : Vp} {H : Hp} {r : R α} {f : α → β} {k : β → Prop} (h : Hd E W H r fun a => k (f a)) : Hd E W H (r.map f) k := by
  cases r with
  | ok a => exact h
  | ex c => exact h
  | no => exact h
theorem asInts_eq : ∀ {ds : List D} {ns : List Int}, asInts ds = some ns → ds = ns.map PyData.int
  | [], _, h => by cases h; rfl
  | .int i :: r, ns, h => by
    cases q : asInts r with
    | none => rw [asInts, q] at h; cases h
    | some ms => rw [asInts, q] at h; cases h; rw [List.map_cons, asInts_eq q]
  | .none :: _, _, h => by cases h
  | .bool _ :: _, _, h => by cases h
  | .str _ :: _, _, h => by cases h
  | .list _ :: _, _, h => by cases h
  | .tuple _ :: _, _, h => by cases h
  | .dict _ :: _, _, h => by cases h
theorem asBools_eq : ∀ {ds : List D} {ns : List Bool}, asBools ds = some ns → ds = ns.map PyData.bool
  | [], _, h => by cases h; rfl
  | .bool i :: r, ns, h => by
    cases q : asBools r with
    | none => rw [asBools, q] at h; cases h
    | some ms => rw [asBools, q] at h; cases h; rw [List.map_cons, asBools_eq q]
  | .none :: _, _, h => by cases h
  | .int _ :: _, _, h => by cases h
  | .str _ :: _, _, h => by cases h
  | .list _ :: _, _, h => by cases h
  | .tuple _ :: _, _, h => by cases h
  | .dict _ :: _, _, h => by cases h
theorem RpA.ofIntsD {K : PySem.W.Frag} {C : Rc} {H : Hp} {vs : List V} {ds : List D} {ns : List Int} (r : RpA K C H vs ds) (e : asInts ds = some ns) : vs = ns.map V.int := by
  rw [asInts_eq e] at r; exact r.ofInts
theorem RpA.ofBoolsD {K : PySem.W.Frag} {C : Rc} {H : Hp} {vs : List V} {ds : List D} {ns : List Bool} (r : RpA K C H vs ds) (e : asBools ds = some ns) : vs = ns.map V.bl := by
  rw [asBools_eq e] at r; exact r.ofBools
/-- a two-place operation on data -/
def OpD (K : PySem.W.Frag) (r : R2) (f : D → D → R D) : Prop := ∀ (W : Vp) (E : XK) (F H : Hp) (x y : V) (d1 d2 : D) (Q : VK), Same F H → Rp K W.rc F x d1 → Rp K W.rc F y d2 → Hd E W H (f d1 d2) (VPost K W F H Q) → r x y H Q
def OpD1 (K : PySem.W.Frag) (r : V → Hp → VK → Prop) (f : D → R D) : Prop := ∀ (W : Vp) (E : XK) (F H : Hp) (x : V) (d : D) (Q : VK), Same F H → Rp K W.rc F x d → Hd E W H (f d) (VPost K W F H Q) → r x H Q
def OpDN (K : PySem.W.Frag) (r : R2) (f : D → D → R D) : Prop := ∀ (W : Vp) (E : XK) (F H : Hp) (x y : V) (d1 d2 : D) (Q : VK), Same F H → Rp K W.rc F x d1 → Rp K W.rc F y d2 → Hd E W H (f d1 d2) (NPost K W F H Q) → r x y H Q
def CaD (K : PySem.W.Frag) (r : List V → Hp → VK → Prop) (f : List D → R D) : Prop := ∀ (W : Vp) (E : XK) (F H : Hp) (vs : List V) (ds : List D) (Q : VK), Same F H → RpA K W.rc F vs ds → Hd E W H (f ds) (VPost K W F H Q) → r vs H Q
def CaDN (K : PySem.W.Frag) (r : List V → Hp → VK → Prop) (f : List D → R D) : Prop := ∀ (W : Vp) (E : XK) (F H : Hp) (vs : List V) (ds : List D) (Q : VK), Same F H → RpA K W.rc F vs ds → Hd E W H (f ds) (NPost K W F H Q) → r vs H Q
section
variable {K : PySem.W.Frag}
/-! ### operators -/
theorem o2_I0 {g : Int → Int → V} {f : Int → Int → D} (hg : ∀ K C H i j, Rp K C H (g i j) (f i j)) : OpD K (rI0 g) (intD2 f) := fun W E F H x y d1 d2 Q s r1 r2 m => by
  cases r1 with
  | int i =>
    cases r2 with
    | int j => exact ⟨i, j, rfl, rfl, m _ H F (Same.refl H) (Ext.refl F H) s (hg _ _ _ _ _)⟩
    | _ => exact False.elim m
  | _ => first | exact False.elim m | (cases r2 <;> exact False.elim m)
theorem o2_I {c : Int → Int → Prop} {g : Int → Int → V} {f : Int → Int → D} {h : D → D → R D} (hg : ∀ K C H i j, Rp K C H (g i j) (f i j)) (h1 : ∀ i j, ¬ c i j → h (.int i) (.int j) = .no) (h2 : ∀ i j, c i j → h (.int i) (.int j) = .ok (f i j))
    (h3 : ∀ a b, (∀ i j, a = .int i → b = .int j → False) → h a b = .no) : OpD K (rI c g) h := fun W E F H x y d1 d2 Q s r1 r2 m => by
  have no : (∀ i j, d1 = .int i → d2 = .int j → False) → False := fun z => by rw [h3 d1 d2 z] at m; exact m
  cases r1 with
  | int i =>
    cases r2 with
    | int j =>
      by_cases hc : c i j
      · rw [h2 i j hc] at m
        exact ⟨i, j, rfl, rfl, hc, m _ H F (Same.refl H) (Ext.refl F H) s (hg _ _ _ _ _)⟩
      · rw [h1 i j hc] at m; exact False.elim m
    | _ => exact (no fun _ _ a b => by cases b).elim
  | _ => exact (no fun _ _ a b => by cases a).elim
theorem o2_add : OpD K (rI0 fun i j => .int (i + j)) addD := o2_I0 fun _ _ _ i j => .int _
theorem o2_sub : OpD K (rI0 fun i j => .int (i - j)) subD := o2_I0 fun _ _ _ i j => .int _
theorem no_of {h : D → D → R D} (hi : ∀ a b, (∀ i j, a = PyData.int i → b = PyData.int j → False) → h a b = .no) : ∀ a b, (∀ i j, a = PyData.int i → b = PyData.int j → False) → h a b = .no := hi
theorem o2_R {c : Int → Int → Prop} {g : Int → Int → V} {h : Int → Int → R Int} {f : Int → Int → Int} (hg : ∀ i j, g i j = .int (f i j)) (h2 : ∀ i j z, h i j = .ok z → c i j ∧ z = f i j) (h3 : ∀ i j c, h i j ≠ .ex c) : OpD K (rI c g) (intR h) := fun W E F H x y d1 d2 Q s r1 r2 m => by
  cases r1 with
  | int i =>
    cases r2 with
    | int j =>
      have m : Hd E W H ((h i j).map .int) (VPost K W F H Q) := m
      cases q : h i j with
      | ok z =>
        rw [q] at m
        obtain ⟨hc, e⟩ := h2 i j z q
        exact ⟨i, j, rfl, rfl, hc, by rw [hg, ← e]; exact m _ H F (Same.refl H) (Ext.refl F H) s (.int _)⟩
      | ex c => exact (h3 i j c q).elim
      | no => rw [q] at m; exact False.elim m
    | _ => exact False.elim m
  | _ => cases r2 <;> exact False.elim m
theorem o2_mul : OpD K (rI (fun i j => CMul i j ∨ CMulW i j) fun i j => .int (i * j)) mulD := o2_R (f := fun i j => i * j) (fun _ _ => rfl) (fun i j z h => by
  unfold mulR at h
  split at h
  · rename_i q; cases h; exact ⟨q, rfl⟩
  · cases h) fun i j c h => by unfold mulR at h; split at h <;> cases h
theorem o2_div : OpD K (rI (fun i j => CDivN i j ∨ CDivW i j) fun i j => .int (i.fdiv j)) divD := o2_R (f := fun i j => i.fdiv j) (fun _ _ => rfl) (fun i j z h => by
  unfold divR at h
  split at h
  · rename_i q; cases h; exact ⟨q, rfl⟩
  · cases h) fun i j c h => by unfold divR at h; split at h <;> cases h
theorem o2_mod : OpD K (rI (fun _ j => j ≠ 0) fun i j => .int (i.fmod j)) modD := o2_R (f := fun i j => i.fmod j) (fun _ _ => rfl) (fun i j z h => by
  unfold modR at h
  split at h
  · rename_i q; cases h; exact ⟨q, rfl⟩
  · cases h) fun i j c h => by unfold modR at h; split at h <;> cases h
theorem o2_pow : OpD K (rI CPow fun i j => .int (i ^ j.toNat)) powD := o2_R (f := fun i j => i ^ j.toNat) (fun _ _ => rfl) (fun i j z h => by
  unfold powR at h
  split at h
  · rename_i q; cases h; exact ⟨q, rfl⟩
  · cases h) fun i j c h => by unfold powR at h; split at h <;> cases h
theorem op_mulB {X : Cx} : OpR X (binaryOp .Mult) (rI (fun i j => CMul i j ∨ CMulW i j) fun i j => .int (i * j)) := fun pins s σ H x y v u Q I rx ry ⟨i, j, e1, e2, c, q⟩ => by
  rcases c with c | c
  · exact op_mul pins s σ H x y v u Q I rx ry ⟨i, j, e1, e2, c, q⟩
  · exact op_mulW pins s σ H x y v u Q I rx ry ⟨i, j, e1, e2, c, q⟩
theorem op_divB {X : Cx} : OpR X (binaryOp .FloorDiv) (rI (fun i j => CDivN i j ∨ CDivW i j) fun i j => .int (i.fdiv j)) := fun pins s σ H x y v u Q I rx ry ⟨i, j, e1, e2, c, q⟩ => by
  rcases c with c | c
  · exact op_fdivN pins s σ H x y v u Q I rx ry ⟨i, j, e1, e2, c, q⟩
  · have h0 : (0 : Int) ≤ j := by have := c.1; omega
    have e := Int.fdiv_eq_ediv_of_nonneg i h0
    exact op_fdivW pins s σ H x y v u Q I rx ry ⟨i, j, e1, e2, c, by show Q (.int (i / j)) H; rw [← e]; exact q⟩
theorem o1_neg : OpD1 K (rU fun i => .int (-i)) negD := fun W E F H x d Q s r1 m => by
  cases r1 with
  | int i => exact ⟨i, rfl, m _ H F (Same.refl H) (Ext.refl F H) s (.int _)⟩
  | _ => exact False.elim m
theorem o2_lt : OpD K (rI0 fun i j => .bl (decide (i < j))) ltD := o2_I0 fun _ _ _ i j => .bl _
theorem o2_le : OpD K (rI0 fun i j => .bl (decide (i ≤ j))) leD := o2_I0 fun _ _ _ i j => .bl _
theorem o2_gt : OpD K (rI0 fun i j => .bl (decide (j < i))) gtD := o2_I0 fun _ _ _ i j => .bl _
theorem o2_ge : OpD K (rI0 fun i j => .bl (decide (j ≤ i))) geD := o2_I0 fun _ _ _ i j => .bl _
theorem okD_l {d : D} (h : okD d = true) : d.canLay0 = true := by
  unfold okD at h
  simp only [Bool.and_eq_true] at h
  exact h.1
/-- one of two readings -/
theorem op_or {X : Cx} {f : Value → Value → Sem Value} {r r' : R2} (h : OpR X f r) (h' : OpR X f r') : OpR X f (fun x y H Q => r x y H Q ∨ r' x y H Q) := fun pins s σ H x y v u Q I rx ry z => by
  rcases z with z | z
  · exact h pins s σ H x y v u Q I rx ry z
  · exact h' pins s σ H x y v u Q I rx ry z
theorem op_eqA {X : Cx} (hu : X.A.units + 64 < cLine) : OpR X (compareOp .Eq) (fun x y H Q => rEqD X.K x y H Q ∨ rEq x y H Q) := op_or (op_eqD hu) op_eq
theorem op_neA {X : Cx} (hu : X.A.units + 64 < cLine) : OpR X (compareOp .NotEq) (fun x y H Q => rNeD X.K x y H Q ∨ rNe x y H Q) := op_or (op_neD hu) op_ne
theorem eq_read {W : Vp} {E : XK} {F H : Hp} {x y : V} {d1 d2 : D} {k : Bool → Prop} (s : Same F H) (r1 : Rp K W.rc F x d1) (r2 : Rp K W.rc F y d2) (m : Hd E W H (eqD d1 d2) k) :
    (∃ a b, d1 = .str a ∧ d2 = .str b ∧ decide (x = y) = decide (a = b) ∧ scal x y = true ∧ k (decide (a = b))) ∨ (okD d1 = true ∧ okD d2 = true ∧ Dp K H x d1 ∧ Dp K H y d2 ∧ k (PyData.eqv d1 d2)) := by
  by_cases h : ∃ a b, d1 = .str a ∧ d2 = .str b
  · obtain ⟨a, b, rfl, rfl⟩ := h
    cases r1; cases r2
    refine .inl ⟨a, b, rfl, rfl, ?_, rfl, m⟩
    by_cases z : a = b
    · subst z; simp
    · rw [decide_eq_false z, decide_eq_false fun q => z (V.str.inj q)]
  · have e : eqD d1 d2 = if okD d1 && okD d2 then .ok (PyData.eqv d1 d2) else .no := by
      unfold eqD
      split
      · exact (h ⟨_, _, rfl, rfl⟩).elim
      · rfl
    rw [e] at m
    by_cases z : (okD d1 && okD d2) = true
    · rw [if_pos z] at m
      simp only [Bool.and_eq_true] at z
      exact .inr ⟨z.1, z.2, (r1.up s).dp _ _ (okD_l z.1), (r2.up s).dp _ _ (okD_l z.2), m⟩
    · rw [if_neg z] at m; exact False.elim m
theorem o2_eq : OpD K (fun x y H Q => rEqD K x y H Q ∨ rEq x y H Q) eqV2 := fun W E F H x y d1 d2 Q s r1 r2 m => by
  rcases eq_read s r1 r2 (hd_map m) with ⟨a, b, e1, e2, e3, e4, q⟩ | ⟨z1, z2, p1, p2, q⟩
  · exact .inr ⟨e4, by rw [e3]; exact q _ H F (Same.refl H) (Ext.refl F H) s (.bl _)⟩
  · exact .inl ⟨d1, d2, p1, p2, z1, z2, q _ H F (Same.refl H) (Ext.refl F H) s (.bl _)⟩
theorem o2_ne : OpD K (fun x y H Q => rNeD K x y H Q ∨ rNe x y H Q) neV2 := fun W E F H x y d1 d2 Q s r1 r2 m => by
  rcases eq_read s r1 r2 (hd_map m) with ⟨a, b, e1, e2, e3, e4, q⟩ | ⟨z1, z2, p1, p2, q⟩
  · exact .inr ⟨e4, by rw [e3]; exact q _ H F (Same.refl H) (Ext.refl F H) s (.bl _)⟩
  · exact .inl ⟨d1, d2, p1, p2, z1, z2, q _ H F (Same.refl H) (Ext.refl F H) s (.bl _)⟩
theorem o2_isN : OpD K (fun x y H Q => y = .non ∧ Q (.bl (decide (x = .non))) H) isNoneD := fun W E F H x y d1 d2 Q s r1 r2 m => by
  cases r2 with
  | non =>
    refine ⟨rfl, ?_⟩
    cases r1 <;> exact m _ H F (Same.refl H) (Ext.refl F H) s (.bl _)
  | _ => cases r1 <;> exact False.elim m
theorem o2_notN : OpD K (fun x y H Q => y = .non ∧ Q (.bl (!decide (x = .non))) H) isNotNoneD := fun W E F H x y d1 d2 Q s r1 r2 m => by
  cases r2 with
  | non =>
    refine ⟨rfl, ?_⟩
    cases r1 <;> exact m _ H F (Same.refl H) (Ext.refl F H) s (.bl _)
  | _ => cases r1 <;> exact False.elim m
theorem o2_isB : OpD K (fun x y H Q => ∃ a b, x = .bl a ∧ y = .bl b ∧ Q (.bl (decide (a = b))) H) isBoolD := fun W E F H x y d1 d2 Q s r1 r2 m => by
  cases r1 with
  | bl a =>
    cases r2 with
    | bl b =>
      refine ⟨a, b, rfl, rfl, m _ H F (Same.refl H) (Ext.refl F H) s ?_⟩
      cases a <;> cases b <;> exact .bl _
    | _ => exact False.elim m
  | _ => exact False.elim m
theorem flat_rp {C : Rc} {H : Hp} {v : V} {d : D} (r : Rp K C H v d) (h : flatD d = true) : flatV v = true := by
  cases r <;> first | rfl | cases h
theorem flat_rpa {C : Rc} {H : Hp} : ∀ {vs : List V} {ds : List D}, RpA K C H vs ds → ds.all flatD = true → vs.all flatV = true
  | _, _, .nil, _ => rfl
  | _, _, .cons r t, h => by
    rw [List.all_cons, Bool.and_eq_true] at h ⊢
    exact ⟨flat_rp r h.1, flat_rpa t h.2⟩
theorem eqF_rp {C : Rc} {H H' : Hp} {x y : V} {d e : D} (r : Rp K C H x d) (q : Rp K C H' y e) (h : flatD d = true) (h' : flatD e = true) : eqV x y = eqF d e := by
  cases r <;> first | (cases h; done) | (cases q <;> first | (cases h'; done) | rfl | skip)
theorem inV_rp {C : Rc} {H H' : Hp} {x : V} {d : D} (r : Rp K C H' x d) (h : flatD d = true) : ∀ {vs : List V} {ds : List D}, RpA K C H vs ds → ds.all flatD = true → inV x vs = ds.any fun y => eqF y d
  | _, _, .nil, _ => rfl
  | _, _, .cons q t, z => by
    rw [List.all_cons, Bool.and_eq_true] at z
    unfold inV
    rw [List.any_cons, List.any_cons, eqF_rp q r z.1 h]
    have := inV_rp r h t z.2
    unfold inV at this
    rw [this]
theorem o2_in : OpD K (rIn K false) inD := fun W E F H x y d1 d2 Q s r1 r2 m => by
  cases r2 with
  | lst h1 h2 =>
    rename_i a xs ds
    unfold inD at m
    by_cases z : (flatD d1 && ds.all flatD) = true
    · simp only [z, if_true] at m
      rw [Bool.and_eq_true] at z
      refine ⟨a, xs, rfl, .inl (sqr_l (sqr_mono s h1)), flat_rp r1 z.1, flat_rpa h2 z.2, ?_⟩
      show Q (.bl (inV x xs)) H
      rw [inV_rp r1 z.1 h2 z.2]
      exact m _ H F (Same.refl H) (Ext.refl F H) s (.bl _)
    · simp only [z] at m; exact False.elim m
  | tup h1 h2 =>
    rename_i a xs ds
    unfold inD at m
    by_cases z : (flatD d1 && ds.all flatD) = true
    · simp only [z, if_true] at m
      rw [Bool.and_eq_true] at z
      refine ⟨a, xs, rfl, .inr (sqt_mono s h1), flat_rp r1 z.1, flat_rpa h2 z.2, ?_⟩
      show Q (.bl (inV x xs)) H
      rw [inV_rp r1 z.1 h2 z.2]
      exact m _ H F (Same.refl H) (Ext.refl F H) s (.bl _)
    · simp only [z] at m; exact False.elim m
  | _ => exact False.elim m
theorem o2_notIn : OpD K (rIn K true) notInD := fun W E F H x y d1 d2 Q s r1 r2 m => by
  cases r2 with
  | lst h1 h2 =>
    rename_i a xs ds
    unfold notInD at m
    by_cases z : (flatD d1 && ds.all flatD) = true
    · simp only [z, if_true] at m
      rw [Bool.and_eq_true] at z
      refine ⟨a, xs, rfl, .inl (sqr_l (sqr_mono s h1)), flat_rp r1 z.1, flat_rpa h2 z.2, ?_⟩
      show Q (.bl (!inV x xs)) H
      rw [inV_rp r1 z.1 h2 z.2]
      exact m _ H F (Same.refl H) (Ext.refl F H) s (.bl _)
    · simp only [z] at m; exact False.elim m
  | tup h1 h2 =>
    rename_i a xs ds
    unfold notInD at m
    by_cases z : (flatD d1 && ds.all flatD) = true
    · simp only [z, if_true] at m
      rw [Bool.and_eq_true] at z
      refine ⟨a, xs, rfl, .inr (sqt_mono s h1), flat_rp r1 z.1, flat_rpa h2 z.2, ?_⟩
      show Q (.bl (!inV x xs)) H
      rw [inV_rp r1 z.1 h2 z.2]
      exact m _ H F (Same.refl H) (Ext.refl F H) s (.bl _)
    · simp only [z] at m; exact False.elim m
  | _ => exact False.elim m
theorem itemAt_rp {C : Rc} {H : Hp} {W : Vp} {E : XK} {G : Hp} {k : D → Prop} {xs : List V} {ds : List D} {i : Int} (r : RpA K C H xs ds) (m : Hd E W G (itemAt ds i) k) : ∃ v d, atI xs i = some v ∧ Rp K C H v d ∧ k d := by
  unfold itemAt ixR at m
  cases q : ixAt ds.length i with
  | none => rw [q] at m; exact False.elim m
  | some j =>
    rw [q] at m
    cases z : ds[j]? with
    | none => simp only [z] at m; exact False.elim m
    | some d =>
      simp only [z] at m
      obtain ⟨v, h1, h2⟩ := r.get z
      refine ⟨v, d, ?_, h2, m⟩
      have q' : ixN xs.length i = some j := by rw [r.len]; exact q
      show (ixN xs.length i).bind (fun j => xs[j]?) = some v
      rw [q']
      exact h1
theorem o2_ix : OpD K (rIx K) ixD := fun W E F H x y d1 d2 Q s r1 r2 m => by
  cases r1 with
  | lst h1 h2 =>
    cases r2 with
    | int i =>
      obtain ⟨v, d, a, b, c⟩ := itemAt_rp h2 m
      exact .inl ⟨_, _, i, v, rfl, rfl, sqr_l (sqr_mono s h1), a, c v H F (Same.refl H) (Ext.refl F H) s b⟩
    | _ => exact False.elim m
  | tup h1 h2 =>
    cases r2 with
    | int i =>
      obtain ⟨v, d, a, b, c⟩ := itemAt_rp h2 m
      exact .inr (.inl ⟨_, _, i, v, rfl, rfl, sqt_mono s h1, a, c v H F (Same.refl H) (Ext.refl F H) s b⟩)
    | _ => exact False.elim m
  | _ => cases r2 <;> exact False.elim m
/-- list + list, whoever holds them -/
def rCatR (K : PySem.W.Frag) : R2 := fun x y H Q => ∃ l b xs zs, x = .ref l ∧ y = .ref b ∧ SqR K H l xs ∧ SqR K H b zs ∧ xs.length + zs.length ≤ sizeLine ∧ ∀ p, H p = none → Q (.ref p) (upd H p (.lst (xs ++ zs)))
theorem lst_of {X : Cx} {pins : List (Addr × Obj)} {σ : L2.St} {H : Hp} {s : Shared} {l : Addr} {xs : List V} (I : Inv X pins σ H s) (hH : SqR X.K H l xs) :
    xs.length ≤ sizeLine ∧ ∃ (its : List Value) (n : Nat), Vals xs its ∧ xs.length = its.length ∧ s.heap.get? l = some { cls := .type "list", data := .seq its.toArray n } := by
  rcases hH with hH | ⟨its, n, h1, h2, r⟩
  · have ok : ObjOk X.prog X.w H s.heap l (.lst xs) := hH.ok I.hok
    obtain ⟨a, its, n, r, q⟩ := ok
    exact ⟨a, its, n, r, r.length, q⟩
  · have z := r.length
    have e : its.toList.toArray = its := by simp
    exact ⟨by rw [z]; simpa using h2, its.toList, n, r, z, by rw [e]; exact I.kIn l _ h1⟩
theorem op_catR {X : Cx} : OpR X (binaryOp .Add) (rCatR X.K) := fun pins s σ H x y v u Q I rx ry ⟨l, b, xs, zs, ex, ey, h1, h2, hz, q⟩ => by
  subst ex; subst ey
  cases rx; cases ry
  obtain ⟨_, us, n, r, l1, e⟩ := lst_of I h1
  obtain ⟨_, ws, n', r', l2, e'⟩ := lst_of I h2
  refine PySem.P.add_list e e' ?_ (by simp only [List.size_toArray]; omega)
  rw [show us.toArray ++ ws.toArray = (us ++ ws).toArray from by simp]
  refine ⟨.ref s.heap.objs.size, _, I.lnew (t' := s.toks) (Vals.append r r') (by simpa using hz), rfl, q _ I.fresh⟩
theorem on_cat : OpDN K (rCatR K) catD := fun W E F H x y d1 d2 Q s r1 r2 m => by
  cases r1 with
  | lst h1 h2 =>
    cases r2 with
    | lst h3 h4 =>
      rename_i a xs ds b ys es
      have m : Hd E W H (if ds.length + es.length ≤ big then .ok (.list (ds ++ es)) else .no) (NPost K W F H Q) := m
      by_cases z : ds.length + es.length ≤ big
      · rw [if_pos z] at m
        refine ⟨a, b, xs, ys, rfl, rfl, sqr_mono s h1, sqr_mono s h3, by rw [h2.len, h4.len]; exact Nat.le_trans z big_le, fun p hp => ?_⟩
        exact m p (xs ++ ys) (ds ++ es) _ F rfl (same_upd hp) (Ext.refl F H) (s.trans (same_upd hp)) hp (none_back s hp) upd_same (h2.app h4)
      · rw [if_neg z] at m; exact False.elim m
    | _ => exact False.elim m
  | _ => cases r2 <;> exact False.elim m
/-- list * int, whoever holds the list -/
def rRepR (K : PySem.W.Frag) : R2 := fun x y H Q => ∃ l k xs, x = .ref l ∧ y = .int k ∧ SqR K H l xs ∧ -(2 ^ 63) ≤ k ∧ k < 2 ^ 63 ∧ xs.length * k.toNat ≤ sizeLine ∧ ∀ p, H p = none → Q (.ref p) (upd H p (.lst (List.replicate k.toNat xs).flatten))
theorem rep_arr (us : List Value) (k : Nat) : List.foldl (fun a b => a ++ b) #[] (List.replicate (if us.toArray.isEmpty = true then 0 else k) us.toArray) = (List.replicate k us).flatten.toArray := by
  have gen : ∀ m : Nat, List.foldl (fun a b => a ++ b) #[] (List.replicate m us.toArray) = (List.replicate m us).flatten.toArray := fun m => by
    have z := foldl_rep us m []
    rw [List.nil_append] at z
    exact z
  rw [gen]
  cases us with
  | nil => simp
  | cons a r => rw [if_neg (by simp)]
theorem op_repR {X : Cx} : OpR X (binaryOp .Mult) (rRepR X.K) := fun pins s σ H x y v u Q I rx ry ⟨l, k, xs, ex, ey, h1, k1, k2, hz, q⟩ => by
  subst ex; subst ey
  cases rx
  obtain ⟨t, rfl⟩ := ry
  obtain ⟨_, us, n, r, l1, e⟩ := lst_of I h1
  have len1 : us.toArray.size * k.toNat ≤ sizeLine := by rw [List.size_toArray, ← l1]; exact hz
  have top : (sizeLine : Nat) ≤ (2 ^ 63 - 1) / 8 := by decide
  have c1 : ¬ us.toArray.size * k.toNat > (2 ^ 63 - 1) / 8 := fun w => absurd w (by omega)
  have c2 : ¬ (!Builtin.List.listFitsIndex k) = true := by rw [fitsIndex_both k1 k2]; decide
  have c3 : ¬ Builtin.List.listTooLong (us.toArray.size * k.toNat) = true := by rw [notLongL len1]; decide
  have own : ∃ o : Obj, s.heap.get? l = some o ∧ o.cls = .type "list" := ⟨_, e, rfl⟩
  refine PySem.wpAny_binaryOp_repeat_ref (T := "list") (U := "int") (by decide) own (fun s' => typeIs_int s' k t) PySem.noFill_list_mul F.fills_int_mul F.slot_int_rmul PySem.repeat_list F.slot_int_index.lookup ?_
  refine call_meets F.slot_int_rmul (typeIs_int s k t) F.entry_int_rmul (F.args_int_rmul_2 _ _) (PySem.int___rmul___int_list k t l us.toArray n) ⟨e, rfl, own, ?_⟩
  refine call_meets F.slot_list_mul own F.entry_list_mul (F.args_list_mul_2 _ _) (AutoListH.list___mul___list_int_3 l us.toArray n k t c2 c1 c3) ⟨e, ?_⟩
  rw [rep_arr us k.toNat]
  refine ⟨.ref s.heap.objs.size, _, I.lnew (t' := s.toks) (r.rep k.toNat) ?_, rfl, q _ I.fresh⟩
  rw [PyProof.Rows.lm_len_rep_flat, Nat.mul_comm]
  exact hz
theorem on_rep : OpDN K (rRepR K) repD := fun W E F H x y d1 d2 Q s r1 r2 m => by
  cases r1 with
  | lst h1 h2 =>
    cases r2 with
    | int k =>
      rename_i a xs ds
      have m : Hd E W H (if -(2 ^ 63) ≤ k ∧ k < 2 ^ 63 ∧ ds.length * k.toNat ≤ big then .ok (.list (List.replicate k.toNat ds).flatten) else .no) (NPost K W F H Q) := m
      by_cases z : -(2 ^ 63) ≤ k ∧ k < 2 ^ 63 ∧ ds.length * k.toNat ≤ big
      · rw [if_pos z] at m
        refine ⟨a, k, xs, rfl, rfl, sqr_mono s h1, z.1, z.2.1, by rw [h2.len]; exact Nat.le_trans z.2.2 big_le, fun p hp => ?_⟩
        exact m p _ (List.replicate k.toNat ds).flatten _ F rfl (same_upd hp) (Ext.refl F H) (s.trans (same_upd hp)) hp (none_back s hp) upd_same (h2.rep k.toNat)
      · rw [if_neg z] at m; exact False.elim m
    | _ => exact False.elim m
  | _ => cases r2 <;> exact False.elim m
end
section
variable {K : PySem.W.Frag} {C : Rc} {F : Hp}
theorem one_of {vs : List V} {ds : List D} (r : RpA K C F vs ds) : (∃ v d, vs = [v] ∧ ds = [d] ∧ Rp K C F v d) ∨ ∀ d, ds ≠ [d] := by
  cases r with
  | nil => exact .inr fun _ e => by cases e
  | cons r t =>
    cases t with
    | nil => exact .inl ⟨_, _, rfl, rfl, r⟩
    | cons _ _ => exact .inr fun _ e => by cases e
theorem two_of {vs : List V} {ds : List D} (r : RpA K C F vs ds) : (∃ v w d e, vs = [v, w] ∧ ds = [d, e] ∧ Rp K C F v d ∧ Rp K C F w e) ∨ ∀ d e, ds ≠ [d, e] := by
  cases r with
  | nil => exact .inr fun _ _ e => by cases e
  | cons r t =>
    cases t with
    | nil => exact .inr fun _ _ e => by cases e
    | cons r2 t2 =>
      cases t2 with
      | nil => exact .inl ⟨_, _, _, _, rfl, rfl, r, r2⟩
      | cons _ _ => exact .inr fun _ _ e => by cases e
theorem two_ints {vs : List V} {ds : List D} (r : RpA K C F vs ds) : (∃ i j, vs = [.int i, .int j] ∧ ds = [.int i, .int j]) ∨ ∀ i j, ds ≠ [.int i, .int j] := by
  rcases two_of r with ⟨v, w, d, e, rfl, rfl, r1, r2⟩ | z
  · cases r1 with
    | int i =>
      cases r2 with
      | int j => exact .inl ⟨i, j, rfl, rfl⟩
      | _ => exact .inr fun _ _ e => by cases e
    | _ => exact .inr fun _ _ e => by cases e
  · exact .inr fun i j => z _ _
end
section
variable {K : PySem.W.Frag}
/-! ### built-ins -/
/-- a built-in of one argument -/
theorem ca_one {r : List V → Hp → VK → Prop} {f : List D → R D} (h : ∀ (W : Vp) (E : XK) (F H : Hp) (v : V) (d : D) (Q : VK), Same F H → Rp K W.rc F v d → Hd E W H (f [d]) (VPost K W F H Q) → r [v] H Q) (no : ∀ ds, (∀ d, ds ≠ [d]) → f ds = .no) : CaD K r f := fun W E F H vs ds Q s q m => by
  rcases one_of q with ⟨v, d, rfl, rfl, z⟩ | z
  · exact h W E F H v d Q s z m
  · rw [no ds z] at m; exact False.elim m
theorem cn_one {r : List V → Hp → VK → Prop} {f : List D → R D} (h : ∀ (W : Vp) (E : XK) (F H : Hp) (v : V) (d : D) (Q : VK), Same F H → Rp K W.rc F v d → Hd E W H (f [d]) (NPost K W F H Q) → r [v] H Q) (no : ∀ ds, (∀ d, ds ≠ [d]) → f ds = .no) : CaDN K r f := fun W E F H vs ds Q s q m => by
  rcases one_of q with ⟨v, d, rfl, rfl, z⟩ | z
  · exact h W E F H v d Q s z m
  · rw [no ds z] at m; exact False.elim m
theorem not_one {f : D → R D} {ds : List D} {g : List D → R D} (hg : ∀ d, g [d] = f d) (h0 : g [] = .no) (h2 : ∀ a b r, g (a :: b :: r) = .no) (z : ∀ d, ds ≠ [d]) : g ds = .no := by
  cases ds with
  | nil => exact h0
  | cons a r =>
    cases r with
    | nil => exact (z a rfl).elim
    | cons b r => exact h2 a b r
theorem ca_len : CaD K (fun xs H Q => ∃ p ys, xs = [.ref p] ∧ (SqL K H p ys ∨ SqT K H p ys) ∧ Q (.int ys.length) H) fLen := ca_one (fun W E F H v d Q s r m => by
  cases r with
  | lst h1 h2 =>
    refine ⟨_, _, rfl, .inl (sqr_l (sqr_mono s h1)), ?_⟩
    rw [h2.len]
    exact m _ H F (Same.refl H) (Ext.refl F H) s (.int _)
  | tup h1 h2 =>
    refine ⟨_, _, rfl, .inr (sqt_mono s h1), ?_⟩
    rw [h2.len]
    exact m _ H F (Same.refl H) (Ext.refl F H) s (.int _)
  | _ => exact False.elim m) fun ds z => not_one (g := fLen) (f := fun d => fLen [d]) (fun _ => rfl) rfl (fun a b r => by cases a <;> rfl) z
theorem ca_abs : CaD K (fun xs H Q => ∃ i, xs = [.int i] ∧ Q (.int (if i < 0 then -i else i)) H) fAbs := ca_one (fun W E F H v d Q s r m => by
  cases r with
  | int i => exact ⟨i, rfl, m _ H F (Same.refl H) (Ext.refl F H) s (.int _)⟩
  | _ => exact False.elim m) fun ds z => not_one (g := fAbs) (f := fun d => fAbs [d]) (fun _ => rfl) rfl (fun a b r => by cases a <;> rfl) z
theorem ca_int : CaD K (fun xs H Q => (∃ i, xs = [.int i] ∧ Q (.int i) H) ∨ ∃ k, xs = [.bl k] ∧ Q (.int (if k then 1 else 0)) H) fInt := ca_one (fun W E F H v d Q s r m => by
  cases r with
  | int i => exact .inl ⟨i, rfl, m _ H F (Same.refl H) (Ext.refl F H) s (.int _)⟩
  | bl i => exact .inr ⟨i, rfl, m _ H F (Same.refl H) (Ext.refl F H) s (.int _)⟩
  | _ => exact False.elim m) fun ds z => not_one (g := fInt) (f := fun d => fInt [d]) (fun _ => rfl) rfl (fun a b r => by cases a <;> rfl) z
theorem ca_sum : CaD K (rSum K) fSum := ca_one (fun W E F H v d Q s r m => by
  cases r with
  | lst h1 h2 =>
    rename_i a xs ds
    have m : Hd E W H (match asInts ds with | some ns => R.ok (.int ns.sum) | none => .no) (VPost K W F H Q) := m
    cases q : asInts ds with
    | none => rw [q] at m; exact False.elim m
    | some ns =>
      rw [q] at m
      exact ⟨a, ns, rfl, sqr_l (by rw [← h2.ofIntsD q]; exact sqr_mono s h1), m _ H F (Same.refl H) (Ext.refl F H) s (.int _)⟩
  | _ => exact False.elim m) fun ds z => not_one (g := fSum) (f := fun d => fSum [d]) (fun _ => rfl) rfl (fun a b r => by cases a <;> rfl) z
theorem ca_any : CaD K (rAny K) fAny := ca_one (fun W E F H v d Q s r m => by
  cases r with
  | lst h1 h2 =>
    rename_i a xs ds
    have m : Hd E W H (match asBools ds with | some ns => R.ok (.bool (ns.any id)) | none => .no) (VPost K W F H Q) := m
    cases q : asBools ds with
    | none => rw [q] at m; exact False.elim m
    | some ns =>
      rw [q] at m
      exact ⟨a, ns, rfl, sqr_l (by rw [← h2.ofBoolsD q]; exact sqr_mono s h1), m _ H F (Same.refl H) (Ext.refl F H) s (.bl _)⟩
  | _ => exact False.elim m) fun ds z => not_one (g := fAny) (f := fun d => fAny [d]) (fun _ => rfl) rfl (fun a b r => by cases a <;> rfl) z
theorem ca_all : CaD K (rAll K) fAll := ca_one (fun W E F H v d Q s r m => by
  cases r with
  | lst h1 h2 =>
    rename_i a xs ds
    have m : Hd E W H (match asBools ds with | some ns => R.ok (.bool (ns.all id)) | none => .no) (VPost K W F H Q) := m
    cases q : asBools ds with
    | none => rw [q] at m; exact False.elim m
    | some ns =>
      rw [q] at m
      exact ⟨a, ns, rfl, sqr_l (by rw [← h2.ofBoolsD q]; exact sqr_mono s h1), m _ H F (Same.refl H) (Ext.refl F H) s (.bl _)⟩
  | _ => exact False.elim m) fun ds z => not_one (g := fAll) (f := fun d => fAll [d]) (fun _ => rfl) rfl (fun a b r => by cases a <;> rfl) z
theorem ca_max2 : CaD K (fun xs H Q => ∃ i j, xs = [.int i, .int j] ∧ Q (.int (if j > i then j else i)) H) fMax2 := fun W E F H vs ds Q s r m => by
  rcases two_ints r with ⟨i, j, rfl, rfl⟩ | z
  · exact ⟨i, j, rfl, m _ H F (Same.refl H) (Ext.refl F H) s (.int _)⟩
  · have q : fMax2 ds = .no := by
      unfold fMax2
      split
      · exact (z _ _ rfl).elim
      · rfl
    rw [q] at m; exact False.elim m
theorem ca_min2 : CaD K (fun xs H Q => ∃ i j, xs = [.int i, .int j] ∧ Q (.int (if j < i then j else i)) H) fMin2 := fun W E F H vs ds Q s r m => by
  rcases two_ints r with ⟨i, j, rfl, rfl⟩ | z
  · exact ⟨i, j, rfl, m _ H F (Same.refl H) (Ext.refl F H) s (.int _)⟩
  · have q : fMin2 ds = .no := by
      unfold fMin2
      split
      · exact (z _ _ rfl).elim
      · rfl
    rw [q] at m; exact False.elim m
theorem ca_gcd : CaD K rGcd fGcd := fun W E F H vs ds Q s r m => by
  rcases two_ints r with ⟨i, j, rfl, rfl⟩ | z
  · exact ⟨i, j, rfl, m _ H F (Same.refl H) (Ext.refl F H) s (.int _)⟩
  · have q : fGcd ds = .no := by
      unfold fGcd
      split
      · exact (z _ _ rfl).elim
      · rfl
    rw [q] at m; exact False.elim m
theorem cn_list : CaDN K (fun xs H Q => ∃ p ys, xs = [.ref p] ∧ (SqL K H p ys ∨ SqT K H p ys) ∧ ∀ l, H l = none → Q (.ref l) (upd H l (.lst ys))) fList := cn_one (fun W E F H v d Q s r m => by
  cases r with
  | lst h1 h2 => exact ⟨_, _, rfl, .inl (sqr_l (sqr_mono s h1)), fun p hp => m p _ _ _ F rfl (same_upd hp) (Ext.refl F H) (s.trans (same_upd hp)) hp (none_back s hp) upd_same h2⟩
  | tup h1 h2 => exact ⟨_, _, rfl, .inr (sqt_mono s h1), fun p hp => m p _ _ _ F rfl (same_upd hp) (Ext.refl F H) (s.trans (same_upd hp)) hp (none_back s hp) upd_same h2⟩
  | _ => exact False.elim m) fun ds z => not_one (g := fList) (f := fun d => fList [d]) (fun _ => rfl) rfl (fun a b r => by cases a <;> rfl) z
theorem ca_tuple : CaD K (fun xs H Q => ∃ p ys, xs = [.ref p] ∧ ((SqL K H p ys ∧ ∀ l, H l = none → Q (.ref l) (upd H l (.tup ys))) ∨ (SqT K H p ys ∧ Q (.ref p) H))) fTuple := ca_one (fun W E F H v d Q s r m => by
  cases r with
  | lst h1 h2 => exact ⟨_, _, rfl, .inl ⟨sqr_l (sqr_mono s h1), fun p hp => m _ _ (upd F p (.tup _)) (same_upd hp) (Ext.one hp s) (same_upd2 s) (.tup (SqT.of upd_same) (h2.up (Ext.one hp s).up))⟩⟩
  | tup h1 h2 => exact ⟨_, _, rfl, .inr ⟨sqt_mono s h1, m _ H F (Same.refl H) (Ext.refl F H) s (.tup h1 h2)⟩⟩
  | _ => exact False.elim m) fun ds z => not_one (g := fTuple) (f := fun d => fTuple [d]) (fun _ => rfl) rfl (fun a b r => by cases a <;> rfl) z
theorem insI_perm (i : Int) : ∀ l : List Int, (insI i l).Perm (i :: l)
  | [] => .refl _
  | j :: r => by
    unfold insI
    split
    · exact .refl _
    · exact ((insI_perm i r).cons j).trans (.swap i j r)
theorem sortI_perm : ∀ l : List Int, (sortI l).Perm l
  | [] => .refl _
  | i :: r => (insI_perm i _).trans ((sortI_perm r).cons i)
theorem insI_mem {i x : Int} {l : List Int} (h : x ∈ insI i l) : x = i ∨ x ∈ l := by
  have := (insI_perm i l).mem_iff.mp h
  simpa using this
theorem insI_sorted (i : Int) : ∀ l : List Int, l.Pairwise (· ≤ ·) → (insI i l).Pairwise (· ≤ ·)
  | [], _ => by simp [insI]
  | j :: r, h => by
    have h' := List.pairwise_cons.mp h
    unfold insI
    split
    · rename_i hij
      exact List.pairwise_cons.mpr ⟨fun x hx => by
        rcases List.mem_cons.mp hx with e | e
        · rw [e]; exact hij
        · have := h'.1 x e; omega, h⟩
    · exact List.pairwise_cons.mpr ⟨fun x hx => by
        rcases insI_mem hx with e | e
        · rw [e]; omega
        · exact h'.1 x e, insI_sorted i r h'.2⟩
theorem sortI_sorted : ∀ l : List Int, (sortI l).Pairwise (· ≤ ·)
  | [] => .nil
  | i :: r => insI_sorted i _ (sortI_sorted r)
theorem cn_sorted : CaDN K (rSortedI K) fSorted := cn_one (fun W E F H v d Q s r m => by
  cases r with
  | lst h1 h2 =>
    rename_i a xs ds
    have m : Hd E W H (match asInts ds with | some ns => R.ok (.list ((sortI ns).map .int)) | none => .no) (NPost K W F H Q) := m
    cases q : asInts ds with
    | none => rw [q] at m; exact False.elim m
    | some ns =>
      rw [q] at m
      refine ⟨a, ns, rfl, sqr_l (by rw [← h2.ofIntsD q]; exact sqr_mono s h1), fun ns' p hp hs hn => ?_⟩
      have e : ns' = sortI ns := PySem.W.ksm_same (hp.trans (sortI_perm ns).symm) hs (sortI_sorted ns)
      rw [e]
      exact m p _ ((sortI ns).map PyData.int) _ F rfl (same_upd hn) (Ext.refl F H) (s.trans (same_upd hn)) hn (none_back s hn) upd_same RpA.ints
  | _ => exact False.elim m) fun ds z => not_one (g := fSorted) (f := fun d => fSorted [d]) (fun _ => rfl) rfl (fun a b r => by cases a <;> rfl) z

end
end Tx

set_option Elab.async false
set_option linter.all false
set_option maxRecDepth 100000
set_option maxHeartbeats 4000000
/-! A6: expressions and tests by data. -/
namespace Tx
open PySem L2 En

/-- lists of arguments -/
class EnL (A : Type) where
  enl : A → List D
open EnL
instance : EnL Unit := ⟨fun _ => []⟩
instance {α B : Type} [En α] [EnL B] : EnL (α × B) := ⟨fun x => en x.1 :: enl x.2⟩

section
variable (K : PySem.W.Frag) (W : Vp)
def Post (F H : Hp) (s : Sh) (Q : VK) (d : D) : Prop := ∀ v H' F' fp, Same H H' → Ext F H F' → Same F' H' → Ow K W.rc F' H' s v d fp → (∀ a ∈ fp, H a = none ∧ F' a = none) → Q v H'
def PostA (F H : Hp) (s : Sh) (Q : List V → Hp → Prop) (ds : List D) : Prop := ∀ vs H' F' fp, Same H H' → Ext F H F' → Same F' H' → OwA K W.rc F' H' s vs ds fp → (∀ a ∈ fp, H a = none ∧ F' a = none) → Q vs H'
/-- .. what is read, not new: with b, it stays as long as the base heap does -/
def PostR (H0 F H : Hp) (b : Bool) (s : Sh) (Q : VK) (d : D) : Prop := ∀ v H' F' fp, Same H H' → Ext F H F' → Same F' H' → Ow K W.rc F' H' s v d fp → (b = true → ∀ a ∈ fp, ∃ o, H0 a = some o) → Q v H'
def tE {α : Type} [En α] (E : L2.St → XK) (L : Nat) (ρ : Env) (s : Sh) (m : R α) : TE := fun σ H Q => ∃ H0 F, EnvS K W.rc H0 F H L σ ρ ∧ Hd (E σ) W H m fun a => Post K W F H s Q (en a)
def tR {α : Type} [En α] (E : L2.St → XK) (L : Nat) (ρ : Env) (b : Bool) (s : Sh) (m : R α) : TE := fun σ H Q => ∃ H0 F, EnvS K W.rc H0 F H L σ ρ ∧ Hd (E σ) W H m fun a => PostR K W H0 F H b s Q (en a)
def tA {A : Type} [EnL A] (E : L2.St → XK) (L : Nat) (ρ : Env) (s : Sh) (m : R A) : TA := fun σ H Q => ∃ H0 F, EnvS K W.rc H0 F H L σ ρ ∧ Hd (E σ) W H m fun a => PostA K W F H s Q (enl a)
def tT (E : L2.St → XK) (L : Nat) (ρ : Env) (m : R Bool) : TT := fun σ H Q => ∃ H0 F, EnvS K W.rc H0 F H L σ ρ ∧ Hd (E σ) W H m fun b => ∀ H', Same H H' → Q b H'
end
abbrev VE (X : Cx) (W : Vp) (E : L2.St → XK) (ρ : Env) (s : Sh) (e : Expr) {α : Type} [En α] (m : R α) : Prop := PE X e (tE X.K W E X.N.length ρ s m)
abbrev VR (X : Cx) (W : Vp) (E : L2.St → XK) (ρ : Env) (b : Bool) (s : Sh) (e : Expr) {α : Type} [En α] (m : R α) : Prop := PE X e (tR X.K W E X.N.length ρ b s m)
abbrev VA (X : Cx) (W : Vp) (E : L2.St → XK) (ρ : Env) (s : Sh) (es : List Expr) {A : Type} [EnL A] (m : R A) : Prop := PA X es (tA X.K W E X.N.length ρ s m)
abbrev VT (X : Cx) (W : Vp) (E : L2.St → XK) (ρ : Env) (e : Expr) (m : R Bool) : Prop := PT X e (tT X.K W E X.N.length ρ m)
abbrev VWh (X : Cx) (W : Vp) (E : L2.St → XK) (ρ : Env) (e : Expr) (m : R Bool) : Prop := PW X e (tT X.K W E X.N.length ρ m)

section
variable {K : PySem.W.Frag} {W : Vp} {F F1 H H1 : Hp} {s : Sh} {Q : VK} {d : D}
theorem Post.step (h : Post K W F H s Q d) (sm : Same H H1) (e : Ext F H F1) : Post K W F1 H1 s Q d := fun v H' F' fp a b c w n => h v H' F' fp (sm.trans a) (e.trans sm b) c w fun x hx => ⟨none_back sm (n x hx).1, (n x hx).2⟩
theorem Post.vp (h : Post K W F H .frz Q d) : VPost K W F H Q d := fun v H' F' a b c r => h v H' F' [] a b c (.fz r) fun x hx => nomatch hx
theorem Post.np (h : Post K W F H (.lst .frz) Q d) : NPost K W F H Q d := fun p vs ds H' F' e a b c n m l r => by
  subst e
  exact h (.ref p) H' F' [p] a b c (.lst l (OwA.ofRp r) (by simp)) fun x hx => by
    rw [List.mem_singleton.mp hx]; exact ⟨n, m⟩
/-- what is new may be frozen -/
theorem Post.frz (h : Post K W F H .frz Q d) : Post K W F H s Q d := fun v H' F' fp a b c w n => by
  let G : Hp := fun x => if x ∈ fp then H' x else F' x
  have inG : ∀ x ∈ fp, G x = H' x := fun x hx => if_pos hx
  have outG : ∀ x, x ∉ fp → G x = F' x := fun x hx => if_neg hx
  have s1 : Same F' G := fun x u z => by
    by_cases y : x ∈ fp
    · rw [(n x y).2] at z; cases z
    · rw [outG x y]; exact z
  refine h v H' G [] a ⟨b.up.trans s1, fun x u z => ?_⟩ (fun x u z => ?_) (.fz (w.rp s1 inG)) fun x hx => nomatch hx
  · by_cases y : x ∈ fp
    · exact .inr (n x y).1
    · rw [outG x y] at z; exact b.new x u z
  · by_cases y : x ∈ fp
    · rw [inG x y] at z; exact z
    · rw [outG x y] at z; exact c x u z
theorem Post.sc (z : scD d = true) (h : Post K W F H s Q d) (sm : Same F H) : Post K W H H .frz Q d := fun v H' F' fp a b c w n =>
  h v H' F [] a (Ext.refl F H) (sm.trans a) (.sc z (sc_rp (w.toRp.2.up c) z)) fun x hx => nomatch hx
end
theorem okH {α : Type} {E : XK} {W : Vp} {H : Hp} {a : α} {k : α → Prop} (h : Hd E W H (.ok a) k) : k a := h

section
variable {X : Cx} {W : Vp} {E : L2.St → XK} {ρ : Env} {s : Sh} {e a b c : Expr} {es rest : List Expr} {pos : Pos} {b0 : Bool}
variable {α β γ : Type} [En α] [En β] [En γ] {m : R α} {n : R β} {A : Type} [EnL A] {mA : R A}
theorem ve_frz (h : VE X W E ρ s e m) : VE X W E ρ .frz e m := h.wk fun σ H Q ⟨H0, F, k, q⟩ => ⟨H0, F, k, q.imp fun _ => Post.frz⟩
theorem ve_sc [Sc α] (h : VE X W E (fzA ρ) .frz e m) : VE X W E ρ s e m := h.wk fun σ H Q ⟨H0, F, k, q⟩ => ⟨H, H, k.all, q.imp fun a p => Post.sc (Sc.sc a) p k.sub⟩
theorem ve_gr [GrT s α] (h : VE X W E (fzA ρ) s e m) : VE X W E ρ s e m := h.wk fun σ H Q ⟨H0, F, k, q⟩ => ⟨H, H, k.all, q.imp fun a p v H' F' fp s1 x1 f1 w n =>
  p v H' F fp s1 (Ext.refl F H) (k.sub.trans s1) (w.ground (GrT.gr a)) fun x hx => ⟨(n x hx).1, by
    cases y : F x with
    | none => rfl
    | some o =>
      have z := (n x hx).1
      rw [k.sub x o y] at z; cases z⟩⟩
theorem vt_all {t : R Bool} (h : VT X W E (fzA ρ) e t) : VT X W E ρ e t := h.wk fun σ H Q ⟨H0, F, k, q⟩ => ⟨H, H, k.all, q⟩
theorem ve_v {i : Nat} {x : α} (h : PE X e (tVar i)) (hi : ρ i = .vl .fz (en x)) : VE X W E ρ .frz e (.ok x) := h.wk fun σ H Q ⟨H0, F, k, q⟩ => by
  obtain ⟨fp, o1, _⟩ := k.sl
  obtain ⟨v, h1, _, h2⟩ := o1 i _ _ hi
  exact ⟨v, h1, okH q v H F [] (Same.refl H) (Ext.refl F H) k.sub (.fz h2) fun x hx => nomatch hx⟩
theorem ve_c {v : V} {x : α} (h : PE X e (L2.tC v)) (r : ∀ K C H, Rp K C H v (en x)) : VE X W E ρ .frz e (.ok x) := h.wk fun σ H Q ⟨H0, F, k, q⟩ => okH q v H F [] (Same.refl H) (Ext.refl F H) k.sub (.fz (r _ _ _)) fun x hx => nomatch hx
theorem ve_int {i : Int} {j pos} : VE X W E ρ .frz (.Constant (.int i) j pos) (.ok i) := ve_c pe_int fun _ _ _ => .int i
theorem ve_bl {i : Bool} {j pos} : VE X W E ρ .frz (.Constant (.bool i) j pos) (.ok i) := ve_c pe_bl fun _ _ _ => .bl i
theorem ve_non {j pos} : VE X W E ρ .frz (.Constant .none j pos) (.ok ()) := ve_c pe_non fun _ _ _ => .non
theorem ve_nonO {j pos} : VE X W E ρ .frz (.Constant .none j pos) (.ok (none : Option α)) := ve_c pe_non fun _ _ _ => .non
theorem ve_str {i : Str} {j pos} : VE X W E ρ .frz (.Constant (.str i) j pos) (.ok i) := ve_c pe_str fun _ _ _ => .str i
/-- the same data under another name -/
theorem ve_cast (f : α → β) (h : VE X W E ρ s e m) (hf : ∀ a, en (f a) = en a := by intro _; rfl) : VE X W E ρ s e (m.map f) := h.wk fun σ H Q ⟨H0, F, k, q⟩ => ⟨H0, F, k, (hd_map q).imp fun a p => by rw [hf] at p; exact p⟩
/-- .. under another name, where it has one -/
theorem ve_castR (f : α → R β) (h : VE X W E ρ s e m) (hf : ∀ a, (∃ b, f a = .ok b ∧ en b = en a) ∨ f a = .no) : VE X W E ρ s e (m.bind f) := h.wk fun σ H Q ⟨H0, F, k, q⟩ => ⟨H0, F, k, (hd_bind q).imp fun a p => by
  rcases hf a with ⟨b, e1, e2⟩ | e1
  · rw [e1] at p
    rw [← e2]
    exact p
  · rw [e1] at p
    exact p.elim⟩
theorem ve_un {m : R (Option α)} (h : VE X W E ρ s e m) : VE X W E ρ s e (m.bind unO) := ve_castR unO h fun a => by
  cases a with
  | none => exact .inr rfl
  | some a => exact .inl ⟨a, rfl, rfl⟩
theorem ve_op {op : Operator} {r : R2} {f : D → D → R D} (ho : OpR X (binaryOp op) r) (od : OpD X.K r f) (g : α → β → R γ) (hf : ∀ x y, f (en x) (en y) = (g x y).map en) (ha : VE X W E ρ .frz a m) (hb : VE X W E ρ .frz b n) :
    VE X W E ρ .frz (.BinOp a op b pos) (m.bind fun x => n.bind fun y => g x y) := (pe_op ho ha hb).wk fun σ H Q ⟨H0, F, k, q⟩ =>
  ⟨H0, F, k, (hd_bind q).imp fun d1 q1 v H1 F1 fp s1 x1 f1 w1 _ => ⟨H0, F1, k.grow s1 x1 f1, ((hd_bind q1).heap s1).imp fun d2 q2 u H2 F2 fq s2 x2 f2 w2 _ => by
    refine od W (E σ) F2 H2 v u (en d1) (en d2) Q f2 (w1.toRp.2.up x2.up) w2.toRp.2 ?_
    rw [hf]
    exact hd_unmap ((q2.heap (s1.trans s2)).imp fun z p => (p.step (s1.trans s2) (x1.trans s1 x2)).vp)⟩⟩
theorem vn_op {op : Operator} {r : R2} {f : D → D → R D} (ho : OpR X (binaryOp op) r) (od : OpDN X.K r f) (g : α → β → R γ) (hf : ∀ x y, f (en x) (en y) = (g x y).map en) (ha : VE X W E ρ .frz a m) (hb : VE X W E ρ .frz b n) :
    VE X W E ρ (.lst .frz) (.BinOp a op b pos) (m.bind fun x => n.bind fun y => g x y) := (pe_op ho ha hb).wk fun σ H Q ⟨H0, F, k, q⟩ =>
  ⟨H0, F, k, (hd_bind q).imp fun d1 q1 v H1 F1 fp s1 x1 f1 w1 _ => ⟨H0, F1, k.grow s1 x1 f1, ((hd_bind q1).heap s1).imp fun d2 q2 u H2 F2 fq s2 x2 f2 w2 _ => by
    refine od W (E σ) F2 H2 v u (en d1) (en d2) Q f2 (w1.toRp.2.up x2.up) w2.toRp.2 ?_
    rw [hf]
    exact hd_unmap ((q2.heap (s1.trans s2)).imp fun z p => (p.step (s1.trans s2) (x1.trans s1 x2)).np)⟩⟩
theorem ve_cmp {op : CmpOp} {r : R2} {f : D → D → R D} (ho : OpR X (compareOp op) r) (od : OpD X.K r f) (g : α → β → R γ) (hf : ∀ x y, f (en x) (en y) = (g x y).map en) (ha : VE X W E ρ .frz a m) (hb : VE X W E ρ .frz b n) (hm : behindInMarks op b = false) :
    VE X W E ρ .frz (.Compare a [op] [b] pos) (m.bind fun x => n.bind fun y => g x y) := (pe_cmpR ho ha hb hm).wk fun σ H Q ⟨H0, F, k, q⟩ =>
  ⟨H0, F, k, (hd_bind q).imp fun d1 q1 v H1 F1 fp s1 x1 f1 w1 _ => ⟨H0, F1, k.grow s1 x1 f1, ((hd_bind q1).heap s1).imp fun d2 q2 u H2 F2 fq s2 x2 f2 w2 _ => by
    refine od W (E σ) F2 H2 v u (en d1) (en d2) Q f2 (w1.toRp.2.up x2.up) w2.toRp.2 ?_
    rw [hf]
    exact hd_unmap ((q2.heap (s1.trans s2)).imp fun z p => (p.step (s1.trans s2) (x1.trans s1 x2)).vp)⟩⟩
theorem ve_ix {r : R2} {f : D → D → R D} (ho : IxR X r) (od : OpD X.K r f) (g : α → β → R γ) (hf : ∀ x y, f (en x) (en y) = (g x y).map en) (ha : VE X W E ρ .frz a m) (hb : VE X W E ρ .frz b n) (hs : PlainIx b) :
    VE X W E ρ .frz (.Subscript a b pos) (m.bind fun x => n.bind fun y => g x y) := (pe_ix ho ha hb hs).wk fun σ H Q ⟨H0, F, k, q⟩ =>
  ⟨H0, F, k, (hd_bind q).imp fun d1 q1 v H1 F1 fp s1 x1 f1 w1 _ => ⟨H0, F1, k.grow s1 x1 f1, ((hd_bind q1).heap s1).imp fun d2 q2 u H2 F2 fq s2 x2 f2 w2 _ => by
    refine od W (E σ) F2 H2 v u (en d1) (en d2) Q f2 (w1.toRp.2.up x2.up) w2.toRp.2 ?_
    rw [hf]
    exact hd_unmap ((q2.heap (s1.trans s2)).imp fun z p => (p.step (s1.trans s2) (x1.trans s1 x2)).vp)⟩⟩
theorem ve_un1 {op : UnaryOp} {r : V → Hp → VK → Prop} {f : D → R D} (ho : UnR X (unaryOp op) r) (od : OpD1 X.K r f) (g : α → R γ) (hf : ∀ x, f (en x) = (g x).map en) (ha : VE X W E ρ .frz a m) : VE X W E ρ .frz (.UnaryOp op a pos) (m.bind g) := (pe_un ho ha).wk fun σ H Q ⟨H0, F, k, q⟩ =>
  ⟨H0, F, k, (hd_bind q).imp fun d1 q1 v H1 F1 fp s1 x1 f1 w1 _ => by
    refine od W (E σ) F1 H1 v (en d1) Q f1 w1.toRp.2 ?_
    rw [hf]
    exact hd_unmap ((q1.heap s1).imp fun z p => (p.step s1 x1).vp)⟩

/-! ### tests -/
theorem bool_rp {K : PySem.W.Frag} {C : Rc} {H : Hp} {v : V} {k : Bool} (r : Rp K C H v (en k)) : v = .bl k := by cases r; rfl
theorem vt_val {t : R Bool} (ha : VE X W E ρ .frz a t) (he : ∀ whole, isTrue a X.env whole = (do let v ← whole; standAt a.pos; holding [v] (truthy v)) := by intro _; rfl) : VT X W E ρ a t :=
  (L2.pt_val ha he).wk fun σ H Q ⟨H0, F, k, q⟩ => ⟨H0, F, k, q.imp fun d q1 v H1 F1 fp s1 x1 f1 w1 _ => ⟨d, bool_rp w1.toRp.2, q1 H1 s1⟩⟩
theorem vt_cmp {op : CmpOp} {r : R2} {f : D → D → R D} (ho : OpR X (compareOp op) r) (od : OpD X.K r f) (g : α → β → R Bool) (hf : ∀ x y, f (en x) (en y) = (g x y).map en) (ha : VE X W E ρ .frz a m) (hb : VE X W E ρ .frz b n) (hm : behindInMarks op b = false) :
    VT X W E ρ (.Compare a [op] [b] pos) (m.bind fun x => n.bind fun y => g x y) := (pt_cmpR ho ha hb hm).wk fun σ H Q ⟨H0, F, k, q⟩ =>
  ⟨H0, F, k, (hd_bind q).imp fun d1 q1 v H1 F1 fp s1 x1 f1 w1 _ => ⟨H0, F1, k.grow s1 x1 f1, ((hd_bind q1).heap s1).imp fun d2 q2 u H2 F2 fq s2 x2 f2 w2 _ => by
    refine od W (E σ) F2 H2 v u (en d1) (en d2) _ f2 (w1.toRp.2.up x2.up) w2.toRp.2 ?_
    rw [hf]
    exact hd_unmap ((q2.heap (s1.trans s2)).imp fun z p y H3 F3 s3 x3 f3 r3 => ⟨z, bool_rp r3, p H3 ((s1.trans s2).trans s3)⟩)⟩⟩
/-- what counts as true -/
def truD : D → R Bool
  | .none => .ok false
  | .bool b => .ok b
  | .int i => .ok (i != 0)
  | .list xs => .ok (!xs.isEmpty)
  | .tuple xs => .ok (!xs.isEmpty)
  | _ => .no
theorem vt_truth (g : α → R Bool) (hg : ∀ x, truD (en x) = g x) (ha : VE X W E ρ .frz a m) (he : ∀ whole, isTrue a X.env whole = (do let v ← whole; standAt a.pos; holding [v] (truthy v)) := by intro _; rfl) : VT X W E ρ a (m.bind g) :=
  (pt_truth ha he).wk fun σ H Q ⟨H0, F, k, q⟩ => ⟨H0, F, k, (hd_bind q).imp fun d m1 v H1 F1 fp s1 x1 f1 w1 _ => by
    rw [← hg] at m1
    generalize en d = z at m1 w1
    have r1 := w1.toRp.2
    cases r1 with
    | non => exact ⟨_, rfl, m1 H1 s1⟩
    | bl b => exact ⟨_, rfl, m1 H1 s1⟩
    | int i => exact ⟨_, rfl, m1 H1 s1⟩
    | str y => exact m1.elim
    | obj h0 h1 h2 => exact m1.elim
    | dic h1 h2 => exact m1.elim
    | exn h1 => exact m1.elim
    | lst h1 h2 =>
      rename_i aa xs ds
      refine ⟨!ds.isEmpty, .inl ⟨xs, sqr_l (sqr_mono f1 h1), ?_⟩, m1 H1 s1⟩
      have := h2.len
      cases xs <;> cases ds <;> first | rfl | (simp at this)
    | tup h1 h2 =>
      rename_i aa xs ds
      refine ⟨!ds.isEmpty, .inr (.inl ⟨xs, sqt_mono f1 h1, ?_⟩), m1 H1 s1⟩
      have := h2.len
      cases xs <;> cases ds <;> first | rfl | (simp at this)⟩
variable {t u : R Bool}
theorem vt_not (ha : VT X W E ρ a t) : VT X W E ρ (.UnaryOp .Not a pos) (t.map fun b => !b) :=
  (pt_not ha).wk fun σ H Q ⟨H0, F, k, q⟩ => ⟨H0, F, k, (hd_map q).imp fun d m1 H1 s1 => m1 H1 s1⟩
theorem vw_and1 (ha : VT X W E ρ a t) : VWh X W E ρ (.BoolOp .And [a] pos) t := pw_and1 ha
theorem vw_or1 (ha : VT X W E ρ a t) : VWh X W E ρ (.BoolOp .Or [a] pos) t := pw_or1 ha
theorem vw_and (ha : VT X W E ρ a t) (hb : VWh X W E ρ (.BoolOp .And (b :: rest) pos) u) : VWh X W E ρ (.BoolOp .And (a :: b :: rest) pos) (andR t u) :=
  (pw_and ha hb).wk fun σ H Q ⟨H0, F, k, q⟩ => ⟨H0, F, k, (hd_bind q).imp fun d m1 H1 s1 => by
    cases d with
    | true =>
      show tT X.K W E X.N.length ρ u σ H1 Q
      exact ⟨H0, F, k.heap s1, (m1.heap s1).imp fun k q H2 s2 => q H2 (s1.trans s2)⟩
    | false => exact m1 H1 s1⟩
theorem vw_or (ha : VT X W E ρ a t) (hb : VWh X W E ρ (.BoolOp .Or (b :: rest) pos) u) : VWh X W E ρ (.BoolOp .Or (a :: b :: rest) pos) (orR t u) :=
  (pw_or ha hb).wk fun σ H Q ⟨H0, F, k, q⟩ => ⟨H0, F, k, (hd_bind q).imp fun d m1 H1 s1 => by
    cases d with
    | false =>
      show tT X.K W E X.N.length ρ u σ H1 Q
      exact ⟨H0, F, k.heap s1, (m1.heap s1).imp fun k q H2 s2 => q H2 (s1.trans s2)⟩
    | true => exact m1 H1 s1⟩
theorem vt_w (h : VWh X W E ρ e t) : VT X W E ρ e t := PW.pt h
theorem vt_eq {t' : R Bool} (h : VT X W E ρ e t) (q : t = t') : VT X W E ρ e t' := q ▸ h
theorem vw_eq {t' : R Bool} (h : VWh X W E ρ e t) (q : t = t') : VWh X W E ρ e t' := q ▸ h
theorem ve_eq {m' : R α} (h : VE X W E ρ s e m) (q : m = m') : VE X W E ρ s e m' := q ▸ h
theorem andR_ok (x y : Bool) : andR (.ok x) (.ok y) = .ok (x && y) := by cases x <;> rfl
theorem orR_ok (x y : Bool) : orR (.ok x) (.ok y) = .ok (x || y) := by cases x <;> rfl
theorem vw_andP {x y : Bool} (ha : VT X W E ρ a (.ok x)) (hb : VWh X W E ρ (.BoolOp .And (b :: rest) pos) (.ok y)) : VWh X W E ρ (.BoolOp .And (a :: b :: rest) pos) (.ok (x && y)) := vw_eq (vw_and ha hb) (andR_ok x y)
theorem vw_orP {x y : Bool} (ha : VT X W E ρ a (.ok x)) (hb : VWh X W E ρ (.BoolOp .Or (b :: rest) pos) (.ok y)) : VWh X W E ρ (.BoolOp .Or (a :: b :: rest) pos) (.ok (x || y)) := vw_eq (vw_or ha hb) (orR_ok x y)
/-! ### and, or, not as values -/
theorem ve_one {op} (h : VE X W E ρ s a m) : VE X W E ρ s (.BoolOp op [a] pos) m := pe_one h
theorem ve_and (ha : VE X W E ρ .frz a t) (hb : VE X W E ρ .frz (.BoolOp .And (b :: rest) pos) u) : VE X W E ρ .frz (.BoolOp .And (a :: b :: rest) pos) (andR t u) :=
  (pe_and ha hb).wk fun σ H Q ⟨H0, F, k, q⟩ => ⟨H0, F, k, (hd_bind q).imp fun d m1 v H1 F1 fp s1 x1 f1 w1 _ => by
    refine ⟨d, bool_rp w1.toRp.2, ?_⟩
    cases d with
    | true =>
      show tE X.K W E X.N.length ρ .frz u σ H1 Q
      exact ⟨H0, F1, k.grow s1 x1 f1, (Hd.heap (r := u) m1 s1).imp fun d q => q.step s1 x1⟩
    | false =>
      show Q (.bl false) H1
      exact m1 _ H1 F1 [] s1 x1 f1 (.fz (.bl false)) fun x hx => nomatch hx⟩
theorem ve_or (ha : VE X W E ρ .frz a t) (hb : VE X W E ρ .frz (.BoolOp .Or (b :: rest) pos) u) : VE X W E ρ .frz (.BoolOp .Or (a :: b :: rest) pos) (orR t u) :=
  (pe_or ha hb).wk fun σ H Q ⟨H0, F, k, q⟩ => ⟨H0, F, k, (hd_bind q).imp fun d m1 v H1 F1 fp s1 x1 f1 w1 _ => by
    refine ⟨d, bool_rp w1.toRp.2, ?_⟩
    cases d with
    | false =>
      show tE X.K W E X.N.length ρ .frz u σ H1 Q
      exact ⟨H0, F1, k.grow s1 x1 f1, (Hd.heap (r := u) m1 s1).imp fun d q => q.step s1 x1⟩
    | true =>
      show Q (.bl true) H1
      exact m1 _ H1 F1 [] s1 x1 f1 (.fz (.bl true)) fun x hx => nomatch hx⟩
theorem ve_andP {x y : Bool} (ha : VE X W E ρ .frz a (.ok x)) (hb : VE X W E ρ .frz (.BoolOp .And (b :: rest) pos) (.ok y)) : VE X W E ρ .frz (.BoolOp .And (a :: b :: rest) pos) (.ok (x && y)) := ve_eq (ve_and ha hb) (andR_ok x y)
theorem ve_orP {x y : Bool} (ha : VE X W E ρ .frz a (.ok x)) (hb : VE X W E ρ .frz (.BoolOp .Or (b :: rest) pos) (.ok y)) : VE X W E ρ .frz (.BoolOp .Or (a :: b :: rest) pos) (.ok (x || y)) := ve_eq (ve_or ha hb) (orR_ok x y)
theorem ve_not (ha : VE X W E ρ .frz a t) : VE X W E ρ .frz (.UnaryOp .Not a pos) (t.map fun b => !b) :=
  (pe_not ha).wk fun σ H Q ⟨H0, F, k, q⟩ => ⟨H0, F, k, (hd_map q).imp fun d m1 v H1 F1 fp s1 x1 f1 w1 _ =>
    ⟨d, bool_rp w1.toRp.2, m1 _ H1 F1 [] s1 x1 f1 (.fz (.bl _)) fun x hx => nomatch hx⟩⟩
/-- not x, whatever x is: by its truth -/
theorem ve_if {m n : R α} (hc : VT X W E ρ c t) (ha : VE X W E ρ s a m) (hb : VE X W E ρ s b n) : VE X W E ρ s (.IfExp c a b pos) (iteR t m n) :=
  (pe_ifExp hc ha hb).wk fun σ H Q ⟨H0, F, k, q⟩ => ⟨H0, F, k, (hd_bind q).imp fun d m1 H1 s1 => by
    cases d with
    | true =>
      show tE X.K W E X.N.length ρ s m σ H1 Q
      exact ⟨H0, F, k.heap s1, (Hd.heap (r := m) m1 s1).imp fun d q => q.step s1 (Ext.refl F H)⟩
    | false =>
      show tE X.K W E X.N.length ρ s n σ H1 Q
      exact ⟨H0, F, k.heap s1, (Hd.heap (r := n) m1 s1).imp fun d q => q.step s1 (Ext.refl F H)⟩⟩
theorem iteR_ok (x : Bool) (y z : α) : iteR (.ok x) (.ok y) (.ok z) = .ok (if x = true then y else z) := by cases x <;> rfl
theorem ve_ifP {x : Bool} {y z : α} (hc : VT X W E ρ c (.ok x)) (ha : VE X W E ρ s a (.ok y)) (hb : VE X W E ρ s b (.ok z)) : VE X W E ρ s (.IfExp c a b pos) (.ok (if x = true then y else z)) := ve_eq (ve_if hc ha hb) (iteR_ok x y z)

/-! ### arguments, displays -/
theorem va_nil : VA X W E ρ s [] (.ok ()) := pa_nil.wk fun σ H Q ⟨H0, F, k, q⟩ => okH q [] H F [] (Same.refl H) (Ext.refl F H) k.sub .nil fun x hx => nomatch hx
theorem va_cons (ha : VE X W E ρ s e m) (hr : VA X W E ρ s es mA) (hs : starEach (e :: es) X.env = (false, eval e X.env) :: starEach es X.env := by rfl) : VA X W E ρ s (e :: es) (m.bind fun x => mA.bind fun y => .ok (x, y)) :=
  (pa_cons ha hr hs).wk fun σ H Q ⟨H0, F, k, q⟩ => ⟨H0, F, k, (hd_bind q).imp fun d m1 v H1 F1 fp s1 x1 f1 w1 n1 => ⟨H0, F1, k.grow s1 x1 f1, ((hd_bind m1).heap s1).imp fun ds m2 vs H2 F2 fq s2 x2 f2 w2 n2 => by
    have keep : ∀ a ∈ fp, H2 a = H1 a ∧ F2 a = none := fun a ha => by
      obtain ⟨o, e⟩ := w1.live a ha
      exact ⟨(s2 a o e).trans e.symm, x2.out e (n1 a ha).2⟩
    refine okH m2 (v :: vs) H2 F2 (fp ++ fq) (s1.trans s2) (x1.trans s1 x2) f2 (.cons (w1.mono x2.up fun a ha => (keep a ha).1) w2 fun a ha hb => ?_) fun a ha => ?_
    · obtain ⟨o, e⟩ := w1.live a ha
      rw [(n2 a hb).1] at e; cases e
    · rcases List.mem_append.mp ha with h | h
      · exact ⟨(n1 a h).1, (keep a h).2⟩
      · exact ⟨none_back s1 (n2 a h).1, (n2 a h).2⟩⟩⟩
theorem ve_tup {k} (f : A → α) (h : VA X W E ρ s es mA) (hf : ∀ x, en (f x) = .tuple (enl x) := by intro _; rfl) (hz : ∀ x : A, Nat.ble (enl x).length 64 = true := by intro _; rfl) : VE X W E ρ (.tup s) (.Tuple es k pos) (mA.map f) :=
  (pe_tup h).wk fun σ H Q ⟨H0, F, kk, q⟩ => ⟨H0, F, kk, (hd_map q).imp fun ds m1 vs H1 F1 fp s1 x1 f1 w1 n1 => by
    have l := w1.len
    have l2 := Nat.le_of_ble_eq_true (hz ds)
    have l3 : (64 : Nat) ≤ sizeLine := by decide
    refine ⟨by omega, fun p hp => ?_⟩
    have np : p ∉ fp := fun hx => by
      obtain ⟨o, e⟩ := w1.live p hx
      rw [hp] at e; cases e
    refine m1 (.ref p) _ F1 (p :: fp) (s1.trans (same_upd hp)) x1 (f1.trans (same_upd hp)) ?_ fun a ha => ?_
    · rw [hf]
      exact .tup upd_same (w1.mono (Same.refl F1) fun a ha => upd_ne fun z => np (z ▸ ha)) np
    · rcases List.mem_cons.mp ha with rfl | ha
      · exact ⟨none_back s1 hp, none_back f1 hp⟩
      · exact n1 a ha⟩
theorem ve_lst (f : A → α) (h : VA X W E ρ s es mA) (hf : ∀ x, en (f x) = .list (enl x) := by intro _; rfl) (hz : ∀ x : A, Nat.ble (enl x).length 64 = true := by intro _; rfl) : VE X W E ρ (.lst s) (.List es pos) (mA.map f) :=
  (pe_lst h).wk fun σ H Q ⟨H0, F, kk, q⟩ => ⟨H0, F, kk, (hd_map q).imp fun ds m1 vs H1 F1 fp s1 x1 f1 w1 n1 => by
    have l := w1.len
    have l2 := Nat.le_of_ble_eq_true (hz ds)
    have l3 : (64 : Nat) ≤ sizeLine := by decide
    refine ⟨by omega, fun p hp => ?_⟩
    have np : p ∉ fp := fun hx => by
      obtain ⟨o, e⟩ := w1.live p hx
      rw [hp] at e; cases e
    refine m1 (.ref p) _ F1 (p :: fp) (s1.trans (same_upd hp)) x1 (f1.trans (same_upd hp)) ?_ fun a ha => ?_
    · rw [hf]
      exact .lst upd_same (w1.mono (Same.refl F1) fun a ha => upd_ne fun z => np (z ▸ ha)) np
    · rcases List.mem_cons.mp ha with rfl | ha
      · exact ⟨none_back s1 hp, none_back f1 hp⟩
      · exact n1 a ha⟩

/-! ### built-ins -/
theorem ve_ca {r : List V → Hp → VK → Prop} {f : List D → R D} (od : CaD X.K r f) (g : A → R γ) (hf : ∀ x, f (enl x) = (g x).map en) (h : PE X e (tCB r (tA X.K W E X.N.length ρ .frz mA))) : VE X W E ρ .frz e (mA.bind g) := h.wk fun σ H Q ⟨H0, F, k, q⟩ =>
  ⟨H0, F, k, (hd_bind q).imp fun d q1 vs H1 F1 fp s1 x1 f1 w1 _ => by
    refine od W (E σ) F1 H1 vs (enl d) Q f1 w1.toRp.2 ?_
    rw [hf]
    exact hd_unmap ((q1.heap s1).imp fun z p => (p.step s1 x1).vp)⟩
theorem vn_ca {r : List V → Hp → VK → Prop} {f : List D → R D} (od : CaDN X.K r f) (g : A → R γ) (hf : ∀ x, f (enl x) = (g x).map en) (h : PE X e (tCB r (tA X.K W E X.N.length ρ .frz mA))) : VE X W E ρ (.lst .frz) e (mA.bind g) := h.wk fun σ H Q ⟨H0, F, k, q⟩ =>
  ⟨H0, F, k, (hd_bind q).imp fun d q1 vs H1 F1 fp s1 x1 f1 w1 _ => by
    refine od W (E σ) F1 H1 vs (enl d) Q f1 w1.toRp.2 ?_
    rw [hf]
    exact hd_unmap ((q1.heap s1).imp fun z p => (p.step s1 x1).np)⟩

/-! ### slices -/
def tO (K : PySem.W.Frag) (W : Vp) (E : L2.St → XK) (L : Nat) (ρ : Env) (m : R (Option Int)) : TO := fun σ H Q => ∃ H0 F, EnvS K W.rc H0 F H L σ ρ ∧ Hd (E σ) W H m fun o => ∀ H' F', Same H H' → Ext F H F' → Same F' H' → Q o H'
abbrev VO (X : Cx) (W : Vp) (E : L2.St → XK) (ρ : Env) (e : Option Expr) (m : R (Option Int)) : Prop := PO X e (tO X.K W E X.N.length ρ m)
theorem vo_none : VO X W E ρ none (.ok none) := po_none.wk fun σ H Q ⟨H0, F, k, q⟩ => okH q H F (Same.refl H) (Ext.refl F H) k.sub
theorem int_rp {K : PySem.W.Frag} {C : Rc} {H : Hp} {v : V} {k : Int} (r : Rp K C H v (en k)) : v = .int k := by cases r; rfl
theorem vo_some {m : R Int} (h : VE X W E ρ .frz e m) : VO X W E ρ (some e) (m.map some) := (po_some h).wk fun σ H Q ⟨H0, F, k, q⟩ =>
  ⟨H0, F, k, (hd_map q).imp fun d m1 v H1 F1 fp s1 x1 f1 w1 _ => ⟨d, int_rp w1.toRp.2, m1 H1 F1 s1 x1 f1⟩⟩
theorem cutV_rp {K : PySem.W.Frag} {C : Rc} {F : Hp} {xs : List V} {ds : List D} (r : RpA K C F xs ds) (lo hi : Option Int) : RpA K C F (cutV xs lo hi) (cutL ds lo hi) := by
  have l := r.len
  have e1 : ∀ n d o, HT.sIx n d o = sIxV n d o := fun n d o => by
    cases o with
    | none => rfl
    | some v => rfl
  unfold cutV cutL
  rw [e1, e1, l]
  exact (r.drop _).take _
theorem cutL_map (f : α → D) (xs : List α) (lo hi : Option Int) : cutL (xs.map f) lo hi = (cutL xs lo hi).map f := by
  unfold cutL
  rw [List.map_take, List.map_drop, List.length_map]
theorem vn_sl {m : R (List α)} {lo hi : Option Expr} {p2 pos : Pos} {gl gh : R (Option Int)} (he : VE X W E ρ .frz e m) (hl : VO X W E ρ lo gl) (hh : VO X W E ρ hi gh) : VE X W E ρ (.lst .frz) (.Subscript e (.Slice lo hi none p2) pos) (m.bind fun xs => gl.bind fun i => gh.bind fun j => .ok (cutL xs i j)) :=
  (pe_slice sl_list he hl hh).wk fun σ H Q ⟨H0, F, k, q⟩ =>
    ⟨H0, F, k, (hd_bind q).imp fun d m1 v H1 F1 fp s1 x1 f1 w1 _ => ⟨H0, F1, k.grow s1 x1 f1, ((hd_bind m1).heap s1).imp fun a m2 H2 F2 s2 x2 f2 =>
      ⟨H0, F2, (k.grow s1 x1 f1).grow s2 x2 f2, ((hd_bind m2).heap (s1.trans s2)).imp fun b m3 H3 F3 s3 x3 f3 => by
        have r1 := w1.toRp.2
        cases r1 with
        | lst h1 h2 =>
          have f13 : Same F1 F3 := x2.up.trans x3.up
          have s13 := (s1.trans s2).trans s3
          refine ⟨_, _, rfl, sqr_l (sqr_mono (f13.trans f3) h1), fun p hp => ?_⟩
          have m3 : Post X.K W F H (.lst .frz) Q (en (cutL d a b)) := m3
          refine m3.np p _ _ _ F3 (show en (cutL d a b) = .list (cutL (d.map en) a b) by rw [cutL_map]; rfl) (s13.trans (same_upd hp)) ((x1.trans s1 x2).trans (s1.trans s2) x3) (f3.trans (same_upd hp)) (none_back s13 hp) (none_back f3 hp) upd_same (cutV_rp (h2.up f13) a b)⟩⟩⟩

/-! ### what is read of an owned or a borrowed value -/
theorem vr_e (h : VE X W E ρ .frz e m) : VR X W E ρ b0 .frz e m := h.wk fun σ H Q ⟨H0, F, k, q⟩ => ⟨H0, F, k, q.imp fun a p v H1 F1 fp s1 x1 f1 w1 n => p v H1 F1 fp s1 x1 f1 w1 fun _ a ha => by rw [w1.toRp.1] at ha; cases ha⟩
theorem ve_r (h : VR X W E ρ b0 .frz e m) : VE X W E ρ .frz e m := h.wk fun σ H Q ⟨H0, F, k, q⟩ => ⟨H0, F, k, q.imp fun a p v H1 F1 fp s1 x1 f1 w1 n => p v H1 F1 fp s1 x1 f1 w1 fun a ha => by rw [w1.toRp.1] at ha; cases ha⟩
theorem vr_v {i : Nat} {x : α} {r : Option V} (h : PE X e (tVar i)) (hi : ρ i = .vl (.ow s r) (en x)) : VR X W E ρ false s e (.ok x) := h.wk fun σ H Q ⟨H0, F, k, q⟩ => by
  obtain ⟨fp, o1, _⟩ := k.sl
  obtain ⟨v, h1, h2, h3, _⟩ := o1 i _ _ hi
  exact ⟨v, h1, okH q v H F _ (Same.refl H) (Ext.refl F H) k.sub h3 fun z => nomatch z⟩
theorem vr_b {i : Nat} {x : α} {r : Option V} (h : PE X e (tVar i)) (hi : ρ i = .vl (.bw s r) (en x)) : VR X W E ρ b0 s e (.ok x) := h.wk fun σ H Q ⟨H0, F, k, q⟩ => by
  obtain ⟨fp, o1, _⟩ := k.sl
  obtain ⟨v, h1, h2, h3, h4⟩ := o1 i _ _ hi
  exact ⟨v, h1, okH q v H F _ (Same.refl H) (Ext.refl F H) k.sub h3 fun _ a ha => (h4 a ha).2⟩
end
end Tx

set_option Elab.async false
set_option linter.all false
set_option maxRecDepth 100000
set_option maxHeartbeats 4000000
/-! AX: list(reversed(xs)), enumerate(a tuple). -/
namespace Tx
open PySem PySem.Spec PyProof.Rows L2
abbrev emptyL : Obj := { cls := .type "list", data := .seq #[] }
section
variable {pr : Program} {w : World} {A : Around} {E : Value → Shared → Prop} {s : Shared}
theorem ext_rev {R : Result → Shared → Prop} {it l S : Addr} {xs : Array Value} (hh : A.handled = none)
    (hi : s.heap.IsRevIter it l ((xs.size : Int) - 1)) (hl : s.heap.IsList l xs) (li : l ≠ it) (Si : S ≠ it) (Sl : S ≠ l) (hn : xs.size ≤ sizeLine) (res : Value) (c₀ : Nat)
    (hS : s.heap.get? S = some { cls := .type "list", data := .seq #[] c₀ })
    (hR : ∀ h' tk acc c', (∀ b o, b ≠ S → b ≠ it → s.heap.get? b = some o → h'.get? b = some o) → h'.get? S = some { cls := .type "list", dict := none, data := .seq acc c', slots := #[] } →
      ItemsOf (fun i v => xs[xs.size - 1 - i]? = some v) acc xs.size → R (.ok (.ret res)) { s with heap := h', toks := tk }) :
    wpAny (model pr w) A.in1 (Builtin.List.listExtendWith (.ref S) (.ref it) res)
      (fun fin s' => match fin with
        | .done f => R (.ok f) s'
        | .again c' => c'.quiet = true ∧ codeAny (model pr w) A c' R s') (fun e s' => R (.error e) s') s := by
  have W := (Walks.listRev (prog := pr) (w := w) (A := A.in1) hh it l li xs).toS
  have no : S ∉ [it, l] := by simp [Si, Sl]
  have ty : s.TypeIs (.ref it) "list_reverseiterator" := Heap.IsRevIter.typeIs hi
  have ns : Builtin.List.listSameRef (.ref S) (.ref it) = false := by simp [Builtin.List.listSameRef, Si]
  unfold Builtin.List.listExtendWith
  refine wpAny_bind (wpAny_typeOf ty ?_)
  rw [if_neg (by rw [ns]; decide)]
  refine wpAny_bind (wpAny_pyIter_revIter hi ?_)
  refine wpAny_bind (wpAny_holding ?_)
  unfold Builtin.List.listLengthHint
  refine wpAny_bind (wpAny_specialOf ty RT.nolen_lri ?_)
  show wpAny _ A.in1 (specialOf (Value.ref it) (Str.ofString "__length_hint__") >>= _) _ _ _
  refine wpAny_bind (wpAny_specialOf ty RT.hint_lri ?_)
  generalize hid : ("list_reverseiterator.__length_hint__" : String) = idn
  wp_delta
  rw [show splitId idn = some ("list_reverseiterator", "__length_hint__") from by subst hid; decide +kernel]
  subst hid
  refine wpAny_bind (wpAny_isInstance (b := true) ty (by rw [isSubtype_type]; kernel_rfl) ?_)
  refine wpAny_pure ?_
  rw [if_neg (by decide)]
  have z0 : ((xs.size : Nat) : Int) - 1 - ((0 : Nat) : Int) = (xs.size : Int) - 1 := by omega
  refine wpAny_pure ⟨plainId_quiet F.plain_extend_loop _, codeAny_extend_loopS W hn S no res xs.size 0 _ _ _ rfl (Nat.zero_le _) ⟨Nat.zero_le _, by rw [z0]; exact hi, hl⟩ hS (ItemsOf.nil _) fun s' acc c' hm q hacc => ?_⟩
  rw [Moved.eq_with hm]
  refine hR s'.heap s'.toks acc c' (fun b o b1 b2 e => hm.heap b o (fun m => ?_) e) q hacc
  rcases List.mem_cons.mp m with z | m
  · exact b1 z
  · exact b2 (List.mem_singleton.mp m)
theorem init_rev {R : Result → Shared → Prop} {it l S : Addr} {xs : Array Value} (hh : A.handled = none)
    (hi : s.heap.IsRevIter it l ((xs.size : Int) - 1)) (hl : s.heap.IsList l xs) (li : l ≠ it) (Si : S ≠ it) (Sl : S ≠ l) (hn : xs.size ≤ sizeLine)
    (hS : s.heap.get? S = some emptyL)
    (hR : ∀ h' tk acc c', (∀ b o, b ≠ S → b ≠ it → s.heap.get? b = some o → h'.get? b = some o) → h'.get? S = some { cls := .type "list", dict := none, data := .seq acc c', slots := #[] } →
      ItemsOf (fun i v => xs[xs.size - 1 - i]? = some v) acc xs.size → R (.ok (.ret .none)) { s with heap := h', toks := tk }) :
    wpAny (model pr w) A.in1 (Builtin.«list.__init__» ⟨[.ref S, .ref it], []⟩)
      (fun fin s' => match fin with
        | .done f => R (.ok f) s'
        | .again c' => c'.quiet = true ∧ codeAny (model pr w) A c' R s') (fun e s' => R (.error e) s') s := by
  show wpAny _ _ (do
    let old ← Builtin.List.listItems (.ref S)
    Builtin.List.listUpdate (.ref S) (fun _ => #[])
    letGo old.toList.reverse
    Builtin.List.listExtendWith (.ref S) (.ref it) .none) _ _ s
  refine wpAny_bind ?_
  unfold Builtin.List.listItems
  refine wpAny_bind (wpAny_seqItems hS rfl (wpAny_pure ?_))
  show wpAny _ _ (updateSeq S (fun _ => #[]) >>= fun _ =>
    letGo (#[] : Array Value).toList.reverse >>= fun _ => Builtin.List.listExtendWith (.ref S) (.ref it) .none) _ _ s
  refine wpAny_bind (wpAny_updateSeq hS rfl ?_)
  have h2 := Heap.get?_update_self (Obj.mapSeq (fun _ => (#[] : Array Value))) hS rfl
  have ot : ∀ b o, b ≠ S → s.heap.get? b = some o → (s.heap.update S (Obj.mapSeq (fun _ => (#[] : Array Value)))).get? b = some o :=
    fun b o nb e => (Heap.get?_update_other _ _ (Ne.symm nb)).trans e
  refine wpAny_bind (wpAny_letGo ?_)
  have hl2 : (s.heap.update S (Obj.mapSeq (fun _ => (#[] : Array Value)))).IsList l xs := by
    obtain ⟨o, ho, r⟩ := hl
    exact ⟨o, ot l o (Ne.symm Sl) ho, r⟩
  refine ext_rev (s := { s with heap := s.heap.update S (Obj.mapSeq (fun _ => (#[] : Array Value))) }) hh (hi.at fun o e => ot it o (Ne.symm Si) e) hl2 li Si Sl hn .none _ h2 fun h' tk acc c' hk q hacc => ?_
  exact hR h' tk acc c' (fun b o b1 b2 e => hk b o b1 b2 (ot b o b1 e)) q hacc
theorem list_rev {Q : Value → Shared → Prop} {it l : Addr} {xs : Array Value} (hh : A.handled = none)
    (hi : s.heap.IsRevIter it l ((xs.size : Int) - 1)) (hl : s.heap.IsList l xs) (li : l ≠ it) (hn : xs.size ≤ sizeLine)
    (hQ : ∀ h' tk acc c', (∀ b o, b ≠ it → s.heap.get? b = some o → h'.get? b = some o) → h'.get? s.heap.objs.size = some { cls := .type "list", dict := none, data := .seq acc c', slots := #[] } →
      ItemsOf (fun i v => xs[xs.size - 1 - i]? = some v) acc xs.size → Q (.ref s.heap.objs.size) { s with heap := h', toks := tk }) :
    wpAny (model pr w) A (call (.type "list") [.ref it]) Q E s := by
  refine callType_codes (Q₁ := fun ob s₁ => ob = .ref s.heap.objs.size ∧ s₁ = { s with heap := s.heap.push emptyL }) F.called_list
    (F.typeCall_list_1 _) F.entry_list_init (code_list_new _ ⟨rfl, rfl⟩) fun ob s₁ h₁ => ?_
  obtain ⟨rfl, rfl⟩ := h₁
  have hS : (s.heap.push emptyL).get? s.heap.objs.size = some emptyL := Heap.get?_push_size _ rfl
  obtain ⟨oi, hoi, _⟩ := id hi
  obtain ⟨ol, hol, _⟩ := id hl
  refine ⟨⟨_, hS, rfl⟩, F.args_list_init_2 _ _, init_rev (A := A.in1) hh (hi.at fun o e => Heap.get?_push_of_some _ e) (hl.push _) li (Nat.ne_of_gt (Heap.lt_size hoi)) (Nat.ne_of_gt (Heap.lt_size hol)) hn hS fun h' tk acc c' hk q hacc => ?_⟩
  exact ⟨rfl, hQ h' tk acc c' (fun b o nb e => hk b o (Nat.ne_of_lt (Heap.lt_size e)) nb (Heap.get?_push_of_some _ e)) q hacc⟩
end

/-! ### the rules -/
theorem RpA.snoc {K : PySem.W.Frag} {C : Rc} {H : Hp} : ∀ {vs : List V} {ds : List D}, RpA K C H vs ds → RpA K C H vs.reverse ds.reverse
  | _, _, .nil => .nil
  | _, _, .cons h t => by
    rw [List.reverse_cons, List.reverse_cons]
    exact (RpA.snoc t).app (.cons h .nil)
def tLstRev (K : PySem.W.Frag) (te : TE) : TE := fun σ H Q => te σ H fun v H1 =>
  ∃ (a : Addr) (xs : List V), v = .ref a ∧ SqL K H1 a xs ∧ ∀ q, H1 q = none → Q (.ref q) (upd H1 q (.lst xs.reverse))
section
variable {X : Cx} {e : Expr}
theorem pe_lstRev {te : TE} {p p2 pos pos2 : Pos} (hc : X.calm = true) (hg : Gl X "list") (hm : X.mg "list" = none) (hg2 : Gl X "reversed") (hm2 : X.mg "reversed" = none) (he : PE X e te)
    (z1 : starEach [e] X.env = (false, eval e X.env) :: starEach [] X.env := by rfl)
    (z2 : starEach [.Call (.Name "reversed" p2) [e] [] pos2] X.env = (false, eval (.Call (.Name "reversed" p2) [e] [] pos2) X.env) :: starEach [] X.env := by rfl) :
    PE X (.Call (.Name "list" p) [.Call (.Name "reversed" p2) [e] [] pos2] [] pos) (tLstRev X.K te) := by
  refine ⟨fun pins s σ H Q I h => ?_⟩
  refine Call_ (ld_blt I hg hm boot_list (PyProof.Rows.callWith_type1 (args_cons (Call_ (ld_blt I hg2 hm2 PyProof.Rows.boot_reversed
    (PyProof.Rows.callWith_type1 (args_cons (thn (he.run pins s σ H _ I h) fun u s1 ⟨v, H1, I1, r1, q1⟩ => args_nil ?_) z1) z1 rfl))) z2) z2 rfl))
  obtain ⟨a, xs, ev, hq, q⟩ := q1
  subst ev
  obtain rfl : u = Value.ref a := r1
  obtain ⟨its, rv, pl, hz⟩ := I1.list hq
  refine call_reversed_list pl.isList (args_nil ?_)
  have hl := pl.isList
  obtain ⟨ol, hol, _⟩ := id hl
  have ne : a ≠ s1.heap.objs.size := Nat.ne_of_lt (Heap.lt_size hol)
  have hn : its.toArray.size ≤ sizeLine := by rw [List.size_toArray, ← rv.length]; exact hz
  refine list_rev (s := { s1 with heap := s1.heap.push (revObj a ((its.toArray.size : Int) - 1)) }) (I1.ok.hd hc) ⟨_, Heap.get?_push_size _ rfl, rfl, rfl⟩ (hl.push _) ne hn fun h' tk acc c' hk w0 hi => ?_
  have k : ∀ b u, s1.heap.get? b = some u → h'.get? b = some u := fun b u e => hk b u (Nat.ne_of_lt (Heap.lt_size e)) (Heap.get?_push_of_some _ e)
  have up : s1.heap.objs.size ≤ (s1.heap.push (revObj a ((its.toArray.size : Int) - 1))).objs.size := by simp [Heap.push]
  refine ⟨.ref (s1.heap.push (revObj a ((its.toArray.size : Int) - 1))).objs.size, upd H1 _ (.lst xs.reverse), I1.laid (t' := tk) k up (show ObjOk X.prog X.w _ _ _ (.lst xs.reverse) from ⟨by rw [List.length_reverse]; exact hz, acc.toList, c', RT.vals_rev rv hi, ?_⟩), rfl, q _ (I1.hok.fresh up)⟩
  rw [Array.toArray_toList]
  exact w0
end
open AutoSeq1 (wpAny_loadPart')
theorem meets_enum1 {v : Value} {o : Obj} {Hc : Heap → Prop} (B : Begins v o Hc) :
    Meets (Builtin.«enumerate.__new__» ⟨[.type "enumerate", v], []⟩) (fun _ R s => Hc s.heap ∧
      R (.ok (.ret (.ref (s.heap.push o).objs.size)))
        { s with heap := (s.heap.push o).push { cls := .type "enumerate", data := .fields #[.none, .bool false, .ref s.heap.objs.size, rawInt 0, .none, .none] } }) :=
  .of_wp fun pr w A R s hh => by
    obtain ⟨hp, g, d, tk, os⟩ := s
    obtain ⟨b0, z⟩ := hh
    have hsub := sub_enumerate
    have it : ∀ {A' : Around} {E : Value → Shared → Prop} {Q : Value → Shared → Prop}, Q (.ref hp.objs.size) ⟨hp.push o, g, d, tk, os⟩ → wpAny (model pr w) A' (pyIter v) Q E ⟨hp, g, d, tk, os⟩ :=
      fun q => B.iter pr w _ _ ⟨hp, g, d, tk, os⟩ _ b0 q
    wp_walk using it
    refine wpAny_stack_any fun st => wpAny_pure ?_
    split
    · rename_i c _ _ _ _ _
      cases (c == Value.type "enumerate")
      · wp_walk using it
        exact ⟨_, rfl, z⟩
      · wp_walk using it
        exact ⟨_, rfl, z⟩
    · wp_walk using it
      exact ⟨_, rfl, z⟩
section
variable {pr : Program} {w : World} {A : Around} {E : Value → Shared → Prop} {s : Shared}
theorem enum_one {v : Value} {o : Obj} {Hc : Heap → Prop} {Q : Value → Shared → Prop} (B : Begins v o Hc) (b0 : Hc s.heap)
    (h : ∀ h', IsEnum h' (s.heap.objs.size + 1) s.heap.objs.size 0 .none → h'.get? s.heap.objs.size = some o →
      (∀ b u, s.heap.get? b = some u → h'.get? b = some u) → Q (.ref (s.heap.objs.size + 1)) { s with heap := h' }) :
    wpAny (model pr w) A (call (.type "enumerate") [v]) Q E s := by
  refine callType_new F.called_enumerate (by decide) (F.typeCall_enumerate_1 _) (F.newCall_enumerate_1 _)
    (fun ob => F.args_object_init_2 ob _) F.entry_enumerate_new (meets_enum1 B) ⟨b0, ?_⟩
  have n1 : (s.heap.push o).objs.size = s.heap.objs.size + 1 := Heap.size_push ..
  show _ ∧ _
  rw [n1]
  have q : IsEnum ((s.heap.push o).push { cls := .type "enumerate", data := .fields #[.none, .bool false, .ref s.heap.objs.size, rawInt 0, .none, .none] }) (s.heap.objs.size + 1) s.heap.objs.size 0 .none := by
    have t := Heap.get?_push_size (s.heap.push o) (o := { cls := .type "enumerate", data := .fields #[.none, .bool false, .ref s.heap.objs.size, rawInt 0, .none, .none] }) rfl
    rw [n1] at t
    exact t
  exact ⟨⟨_, q, rfl⟩, h _ q (Heap.get?_push_of_some _ (Heap.get?_push_size _ B.free)) fun b u e => Heap.get?_push_of_some _ (Heap.get?_push_of_some _ e)⟩
end
/-- the tuple at a, each item in a new pair -/
def IteT (K : PySem.W.Frag) (a : Addr) : It where
  go i H := ∃ (xs : List V) (x : V), SqT K H a xs ∧ xs[i]? = some x
  yld i H v H' := ∃ T x, v = .ref T ∧ H T = none ∧ H' = upd H T (.tup [.int (i : Nat), x]) ∧ ∀ xs, SqT K H a xs → xs[i]? = some x
  stop i H := ∃ xs : List V, SqT K H a xs ∧ xs.length ≤ i
theorem walk_enumT {K : PySem.W.Frag} {a : Addr} {xs : List V} : Walk (IteT K a) xs.length (fun H => SqT K H a xs) (YPair (fun i => some (.int (i : Nat))) (fun i => xs[i]?)) where
  goes i _ hi q := ⟨xs, xs[i], q, by simp [hi]⟩
  stops _ q := ⟨xs, q, Nat.le_refl _⟩
  yields i H v H' _ q y := by
    obtain ⟨T, x, h1, h2, h3, h4⟩ := y
    exact ⟨T, .int (i : Nat), x, h1, h2, h3, rfl, h4 xs q⟩
theorem turn_enumT {P : Program} {w : World} {K : PySem.W.Frag} {elts : List Expr} {kk : Nat} {tp : Pos} (a e it : Addr) :
    Turn P w K (.Tuple elts kk tp) (IteT K a) [e, it] e (fun i h => (∃ old, IsEnum h e it ((i : Nat) : Int) old) ∧ h.IsTupleIter it a i ∧ e ≠ it) where
  mem := by simp
  obj i h st b hb := by
    obtain ⟨⟨old, he⟩, ⟨o, ho, hc, hd⟩, _⟩ := st
    have z : b = e ∨ b = it := by simpa using hb
    rcases z with z | z
    · rw [z]; exact ⟨_, he, fun v q => nomatch q⟩
    · rw [z]; exact ⟨o, ho, fun v q => by rw [hd] at q; cases q⟩
  keep i h h' st k := by
    obtain ⟨⟨old, he⟩, hi, ne⟩ := st
    exact ⟨⟨old, k e (by simp) _ he⟩, hi.at fun o q => k it (by simp) o q, ne⟩
  item := by
    intro X hP hw hK hc i pins s σ H E I hf st hg
    subst hP hw hK
    obtain ⟨⟨old, he⟩, hit, ne⟩ := st
    obtain ⟨xs, x, hq, hx⟩ := hg
    obtain ⟨its, rv, p, hz⟩ := I.tuple hq
    obtain ⟨u0, hu0, ru0⟩ := rv.get hx
    have hel : e < s.heap.objs.size := Heap.lt_size he
    obtain ⟨oi, hoi, ci, di⟩ := id hit
    have hil : it < s.heap.objs.size := Heap.lt_size hoi
    obtain ⟨oa, hoa, ca, _⟩ := id p
    have nai : a ≠ it := fun z => by
      rw [z, hoi] at hoa
      cases hoa
      rw [ci] at ca
      simp at ca
    have nea : e ≠ a := fun z => by
      rw [← z] at hoa
      have : s.heap.get? e = some _ := he
      rw [this] at hoa
      cases hoa
      simp at ca
    have D := Draws.tuple (prog := X.prog) (w := X.w) (A := X.A.in1) (I.ok.hd hc) it a nai its.toArray
    have hlt : i < its.toArray.size := by
      have l := rv.length
      have := (List.getElem?_eq_some_iff.mp hx).1
      rw [List.size_toArray]
      omega
    refine wpAny_pyNext_enum_itemC D he ⟨hit, p⟩ hlt ne (by simp [ne, nea]) fun u h' tk hu ho st2 hT hsz hk => ?_
    have eu : u = u0 := by
      have h1 : its[i]? = some u := by simpa using hu
      rw [hu0] at h1
      exact (Option.some.inj h1).symm
    subst eu
    refine ⟨_, rfl, wpAny_letOwnedTupleGo_enum (s := { s with heap := h', toks := tk + 1 }) ho fun h2 he2 sb => ?_⟩
    have hT2 : h2.get? s.heap.objs.size = some { cls := .type "tuple", data := .seq #[.int i tk, u] } := (sb.2 _ (Nat.ne_of_gt hel)).trans hT
    have nw : ObjOk X.prog X.w (upd H s.heap.objs.size (.tup [.int (i : Nat), x])) h2 s.heap.objs.size (.tup [.int (i : Nat), x]) :=
      ⟨by show 2 ≤ sizeLine; decide, [.int i tk, u], .cons ⟨_, rfl⟩ (.cons ru0 .nil), ⟨_, hT2, rfl, _, rfl⟩⟩
    have I1 : Inv X pins σ (upd H s.heap.objs.size (.tup [.int (i : Nat), x])) { s with heap := h2, toks := tk + 1 } :=
      I.turnedNew (ch := [e, it]) (fun b ob hb q => (sb.2 b (fun z => hb (by simp [z]))).trans (hk b ob (fun z => hb (by simp [z])) (fun z => hb (by simp [z])) q)) hf (Nat.le_refl _) nw
    refine ⟨.ref s.heap.objs.size, _, I1, rfl, ⟨_, x, rfl, I.hok.fresh (Nat.le_refl _), rfl, fun ys hy => by rw [I.tuple_inj hy hq]; exact hx⟩, ⟨⟨u, ?_⟩, st2.1.at fun o q => (sb.2 it (Ne.symm ne)).trans q, ne⟩, fun b hb => ?_⟩
    · rw [show ((i + 1 : Nat) : Int) = (i : Int) + 1 by omega]
      exact he2
    · have hb' : b < s.heap.objs.size := by
        have z : b = e ∨ b = it := by simpa using hb
        rcases z with z | z
        · rw [z]; exact hel
        · rw [z]; exact hil
      rw [upd_ne (Nat.ne_of_lt hb')]
      exact (hf b hb).1
  done := by
    intro X hP hw hK hc i pins s σ H E I hf st hg
    subst hP hw hK
    obtain ⟨⟨old, he⟩, hit, ne⟩ := st
    obtain ⟨xs, hq, hx⟩ := hg
    obtain ⟨its, rv, p, hz⟩ := I.tuple hq
    obtain ⟨f0, f1, f2, f3, f4, f5⟩ := hf it (by simp)
    have hl := rv.length
    have D : Draws X.prog X.w X.A.in1 it [it, a] 0 (fun _ _ => False) (fun _ h => h.IsTupleIter it a i ∧ h.IsTuple a its.toArray) :=
      ⟨fun _ _ st => let ⟨o, ho, _⟩ := st.1; ⟨o, ho⟩, fun _ _ _ st hk => ⟨st.1.at fun o e => hk it (by simp) o e, st.2.at fun o e => hk a (by simp) o e⟩,
        fun i s Q E hi _ _ => absurd hi (Nat.not_lt_zero _), fun s Q E st hE => wpAny_nextOf_tuple_end (I.ok.hd hc) st.1 st.2 (by simp; omega) hE⟩
    exact wpAny_pyNext_enum_endD D he ⟨hit, p⟩ fun h' eb => ⟨rfl, I.turned (t' := s.toks) (fun b o hb q => eb b o hb q) f0 f1 f3 f4 f5⟩
  self A i s Q E st h := by
    obtain ⟨⟨_, he⟩, _⟩ := st
    exact wpAny_pyIter_enum he h
def iEnumT (K : PySem.W.Frag) (ta : TA) : TI := fun σ H R => ta σ H fun vs H1 => ∃ a xs, vs = [.ref a] ∧ SqT K H1 a xs ∧ R (IteT K a) H1
theorem pi_enumT {X : Cx} {e : Expr} {ta : TA} {p pos tp : Pos} {elts : List Expr} {kk : Nat} (hg : Gl X "enumerate") (hm : X.mg "enumerate" = none) (ha : PA X [e] ta)
    (hs : starEach [e] X.env = [(false, eval e X.env)] := by rfl) : PI X (.Tuple elts kk tp) (.Call (.Name "enumerate" p) [e] [] pos) (iEnumT X.K ta) := by
  refine ⟨fun pins s σ H R I h => ?_⟩
  refine Call_ (ld_blt I hg hm boot_enumerate (PyProof.Rows.callWith_type1
    (thn (ha.run pos pins s σ H _ I h) fun us s1 ⟨vs, H1, I1, r1, q1⟩ => ?_) hs rfl))
  obtain ⟨a, xs, ex, hq, q⟩ := q1
  subst ex
  cases r1 with
  | cons r rr =>
    cases rr
    cases r
    obtain ⟨its, rv, pt, hz⟩ := I1.tuple hq
    refine enum_one (begins_tuple a its.toArray) pt fun h' he hi hk => wpAny_pyIter_enum he ?_
    have I2 : Inv X pins σ H1 { s1 with heap := h' } := I1.kept (t' := s1.toks) hk
    refine ⟨s1.heap.objs.size + 1, [s1.heap.objs.size + 1, s1.heap.objs.size], _, _, H1, rfl, I2, turn_enumT a (s1.heap.objs.size + 1) s1.heap.objs.size, ⟨⟨.none, he⟩, ⟨_, hi, rfl, rfl⟩, Nat.succ_ne_self _⟩, fun b hb => ?_, q⟩
    have le : s1.heap.objs.size ≤ b := by
      have z : b = s1.heap.objs.size + 1 ∨ b = s1.heap.objs.size := by simpa using hb
      rcases z with z | z
      · rw [z]; exact Nat.le_add_right _ _
      · rw [z]; exact Nat.le_refl _
    exact I1.fpOk le (I1.hok.fresh le)
end Tx

set_option Elab.async false
set_option linter.all false
set_option maxRecDepth 100000
set_option maxHeartbeats 4000000
/-! A7: what is walked, targets, comprehensions. -/
namespace Tx
open PySem L2 En EnL

/-- what one turn of a walk hands on -/
def Yields (K : PySem.W.Frag) (W : Vp) (F' : Hp) (ds : List D) (Y : Nat → Hp → V → Hp → Prop) : Prop :=
  ∀ i H1 v H2 F1, i < ds.length → Y i H1 v H2 → Same F' F1 → Same F1 H1 → ∃ d F2, ds[i]? = some d ∧ Same H1 H2 ∧ Ext F1 H1 F2 ∧ Same F2 H2 ∧ Rp K W.rc F2 v d
/-- with b: the body of a loop may run between the turns -/
def tI {α : Type} [En α] (K : PySem.W.Frag) (W : Vp) (E : L2.St → XK) (L : Nat) (ρ : Env) (b : Bool) (m : R (List α)) : TI := fun σ H RR => ∃ H0 F, EnvS K W.rc H0 F H L σ ρ ∧ Hd (E σ) W H m fun xs =>
  ∀ J H' F' G Y, Same H H' → Ext F H F' → Same F' H' → xs.length ≤ sizeLine → Walk J xs.length G Y → (∀ H2, Same H' H2 → G H2) → (b = true → ∀ H2, Same F' H2 → Same H0 H2 → G H2) → Yields K W F' (xs.map en) Y → RR J H'
abbrev VI {α : Type} [En α] (X : Cx) (W : Vp) (E : L2.St → XK) (ρ : Env) (b : Bool) (tg e : Expr) (m : R (List α)) : Prop := PI X tg e (tI X.K W E X.N.length ρ b m)
theorem pe_len {X : Cx} {e : Expr} {t : TE} (h : PE X e t) : PE X e (fun σ H Q => t σ H fun v H1 => LenOk H1 → Q v H1) := ⟨fun pins s σ H Q I q =>
  wpAny_mono (h.run pins s σ H _ I q) (fun _ _ ⟨v, H1, I1, r, z⟩ => ⟨v, H1, I1, r, z (lenOk I1)⟩) fun _ _ z => z⟩
theorem pa_len {X : Cx} {es : List Expr} {t : TA} (h : PA X es t) : PA X es (fun σ H Q => t σ H fun v H1 => LenOk H1 → Q v H1) := ⟨fun p pins s σ H Q I q =>
  wpAny_mono (h.run p pins s σ H _ I q) (fun _ _ ⟨v, H1, I1, r, z⟩ => ⟨v, H1, I1, r, z (lenOk I1)⟩) fun _ _ z => z⟩
section
variable {X : Cx} {W : Vp} {E : L2.St → XK} {ρ : Env} {tg e a b : Expr} {b0 b1 : Bool} {α β : Type} [En α] [En β]
theorem get_map {f : α → D} {xs : List α} {i : Nat} {x : α} (h : xs[i]? = some x) : (xs.map f)[i]? = some (f x) := by rw [List.getElem?_map, h]; rfl
/-- the list of a value that may be read -/
theorem vi_lo {m : R (List α)} (h : VR X W E ρ b0 (.lst .frz) e m) : VI X W E ρ b0 tg e m := (pi_list (pe_len h)).wk fun σ H RR ⟨H0, F, k, q⟩ => ⟨H0, F, k, q.imp fun xs m1 v H1 F1 fp s1 x1 f1 w1 n1 hlen => by
  have w2 : Ow X.K W.rc F1 H1 (.lst .frz) v (.list (xs.map en)) fp := w1
  cases w2 with
  | sc z _ => cases z
  | lst h1 h2 h3 =>
    rename_i p vs fp
    obtain ⟨rfl, r⟩ := h2.toRp
    have l : vs.length = xs.length := by rw [r.len, List.length_map]
    have sl : SqL X.K H1 p vs := SqL.of h1
    refine ⟨p, rfl, ⟨vs, sl⟩, m1 _ H1 F1 _ _ s1 x1 f1 (by rw [← l]; exact hlen.1 p vs (.inl h1)) (by rw [← l]; exact walk_list (K := X.K) (a := p) (xs := vs)) (fun H2 z => SqL.of (z _ _ h1)) (fun hb H2 z z0 => ?_) fun i Ha u Hb Fa hi y z1 z2 => ?_⟩
    · obtain ⟨o, e'⟩ := n1 hb p List.mem_cons_self
      have e2 := s1 _ _ (k.same _ _ e')
      rw [h1] at e2
      cases e2
      exact SqL.of (z0 _ _ e')
    · obtain ⟨e1, e2⟩ := y
      obtain ⟨d, q1, q2⟩ := r.getV e2
      subst e1
      exact ⟨d, Fa, q1, Same.refl _, Ext.refl _ _, z2, q2.up z1⟩⟩
theorem vi_list {m : R (List α)} (h : VE X W E ρ .frz e m) : VI X W E ρ b0 tg e m := (pi_list (pe_len h)).wk fun σ H RR ⟨H0, F, k, q⟩ => ⟨H0, F, k, q.imp fun xs m1 v H1 F1 fp s1 x1 f1 w1 n1 hlen => by
  have r1 := w1.toRp.2
  cases r1 with
  | @lst p vs ds h1 r =>
    have l : vs.length = xs.length := by rw [r.len, List.length_map]
    refine ⟨p, rfl, ⟨vs, sqr_l (sqr_mono f1 h1)⟩, m1 _ H1 F1 _ _ s1 x1 f1 (by rw [← l]; exact sqr_len hlen (sqr_mono f1 h1)) (by rw [← l]; exact walk_list (K := X.K) (a := p) (xs := vs)) (fun H2 z => sqr_l (sqr_mono (f1.trans z) h1)) (fun _ H2 z _ => sqr_l (sqr_mono z h1)) fun i Ha u Hb Fa hi y z1 z2 => ?_⟩
    obtain ⟨e1, e2⟩ := y
    obtain ⟨d, q1, q2⟩ := r.getV e2
    subst e1
    exact ⟨d, Fa, q1, Same.refl _, Ext.refl _ _, z2, q2.up z1⟩⟩
theorem sqt_len {K : PySem.W.Frag} {H : Hp} {a : Addr} {xs : List V} (l : LenOk H) (h : SqT K H a xs) : xs.length ≤ sizeLine := by
  rcases h with h | ⟨o, its, n, _, _, _, h2, h3⟩
  · exact l.2.1 a xs h
  · have := Vals.length h3
    simp at this
    omega
theorem vi_tup {m : R (Tu α)} (h : VE X W E ρ .frz e m) : VI X W E ρ b0 tg e (m.map (·.l)) := (pi_tup (pe_len h)).wk fun σ H RR ⟨H0, F, k, q⟩ => ⟨H0, F, k, (hd_map q).imp fun xs m1 v H1 F1 fp s1 x1 f1 w1 n1 hlen => by
  have r1 := w1.toRp.2
  cases r1 with
  | @tup p vs ds h1 r =>
    have l : vs.length = xs.l.length := by rw [r.len, List.length_map]
    refine ⟨p, rfl, ⟨vs, sqt_mono f1 h1⟩, m1 _ H1 F1 _ _ s1 x1 f1 (by rw [← l]; exact sqt_len hlen (sqt_mono f1 h1)) (by rw [← l]; exact walk_tup (K := X.K) (a := p) (xs := vs)) (fun H2 z => sqt_mono (f1.trans z) h1) (fun _ H2 z _ => sqt_mono z h1) fun i Ha u Hb Fa hi y z1 z2 => ?_⟩
    obtain ⟨e1, e2⟩ := y
    obtain ⟨d, q1, q2⟩ := r.getV e2
    subst e1
    exact ⟨d, Fa, q1, Same.refl _, Ext.refl _ _, z2, q2.up z1⟩⟩
theorem rangeI_len (lo hi : Int) : (rangeI lo hi).length = (hi - lo).toNat := by simp [rangeI]
theorem rangeI_get {lo hi : Int} {i : Nat} (h : i < (rangeI lo hi).length) : (rangeI lo hi)[i]? = some (lo + (i : Nat)) := by
  rw [rangeI_len] at h
  simp [rangeI, h]
theorem rng_yields {K : PySem.W.Frag} {lo hi : Int} {F' : Hp} : Yields K W F' ((rangeI lo hi).map en) (YFn fun i => .int (lo + (i : Nat))) := fun i Ha v Hb Fa h y z1 z2 => by
  obtain ⟨e1, e2⟩ := y
  subst e1; subst e2
  rw [List.length_map] at h
  exact ⟨_, Fa, get_map (rangeI_get h), Same.refl _, Ext.refl _ _, z2, .int _⟩
theorem vi_rng1 {m : R (Int × Unit)} {p pos : Pos} (hg : Gl X "range") (hm : X.mg "range" = none) (ha : VA X W E ρ .frz [a] m) (hs : starEach [a] X.env = [(false, eval a X.env)] := by rfl) : VI X W E ρ b0 tg (.Call (.Name "range" p) [a] [] pos) (m.bind fun x => rng1 x.1) :=
  (pi_range1 hg hm ha hs).wk fun σ H RR ⟨H0, F, k, q⟩ => ⟨H0, F, k, (hd_bind q).imp fun x m1 vs H1 F1 fp s1 x1 f1 w1 _ => by
    have r1 := w1.toRp.2
    obtain ⟨j, u⟩ := x
    have ev : vs = [.int j] := by
      have r1 : RpA X.K W.rc F1 vs [PyData.int j] := r1
      cases r1 with
      | cons r t => cases r; cases t; rfl
    subst ev
    have m1 : Hd (E σ) W H (rng1 j) _ := m1
    unfold rng1 at m1
    by_cases c : -(2 ^ 62) ≤ j ∧ j ≤ big
    · rw [if_pos c] at m1
      have w := walk_range (lo := 0) (n := j.toNat)
      have l : (rangeI 0 j).length = j.toNat := by rw [rangeI_len]; simp
      have b1 : (big : Int) < 2 ^ 62 := by decide
      refine ⟨j, rfl, c.1, by omega, m1 _ H1 F1 _ _ s1 x1 f1 (by rw [l]; exact Nat.le_trans (by omega : j.toNat ≤ big) big_le) (by rw [l]; exact w) (fun _ _ => True.intro) (fun _ _ _ _ => True.intro) rng_yields⟩
    · rw [if_neg c] at m1; exact m1.elim⟩
theorem vi_rng2 {m : R (Int × Int × Unit)} {p pos : Pos} (hg : Gl X "range") (hm : X.mg "range" = none) (ha : VA X W E ρ .frz [a, b] m) (hs : starEach [a, b] X.env = [(false, eval a X.env), (false, eval b X.env)] := by rfl) (hs2 : starEach [b] X.env = [(false, eval b X.env)] := by rfl) :
    VI X W E ρ b0 tg (.Call (.Name "range" p) [a, b] [] pos) (m.bind fun x => rng2 x.1 x.2.1) :=
  (pi_range2 hg hm ha hs hs2).wk fun σ H RR ⟨H0, F, k, q⟩ => ⟨H0, F, k, (hd_bind q).imp fun x m1 vs H1 F1 fp s1 x1 f1 w1 _ => by
    have r1 := w1.toRp.2
    obtain ⟨i, j, u⟩ := x
    have ev : vs = [.int i, .int j] := by
      have r1 : RpA X.K W.rc F1 vs [PyData.int i, PyData.int j] := r1
      cases r1 with
      | cons r t =>
        cases r
        cases t with
        | cons r t => cases r; cases t; rfl
    subst ev
    have m1 : Hd (E σ) W H (rng2 i j) _ := m1
    unfold rng2 at m1
    by_cases c : -(2 ^ 62) ≤ i ∧ i < 2 ^ 62 ∧ -(2 ^ 62) ≤ j ∧ j < 2 ^ 62 ∧ j - i ≤ big
    · rw [if_pos c] at m1
      have l : (rangeI i j).length = (j - i).toNat := rangeI_len i j
      refine ⟨i, j, rfl, ⟨c.1, c.2.1, c.2.2.1, c.2.2.2.1⟩, m1 _ H1 F1 _ _ s1 x1 f1 (by rw [l]; exact Nat.le_trans (by omega : (j - i).toNat ≤ big) big_le) (by rw [l]; exact walk_range (lo := i) (n := (j - i).toNat)) (fun _ _ => True.intro) (fun _ _ _ _ => True.intro) rng_yields⟩
    · rw [if_neg c] at m1; exact m1.elim⟩
theorem enumL_len : ∀ (k : Nat) (ds : List α), (enumL k ds).length = ds.length
  | _, [] => rfl
  | k, d :: ds => congrArg (· + 1) (enumL_len (k + 1) ds)
theorem enumL_get : ∀ (k : Nat) (ds : List α) (i : Nat) (d : α), ds[i]? = some d → (enumL k ds)[i]? = some (((k + i : Nat) : Int), d)
  | _, [], _, _, h => by simp at h
  | k, d :: ds, 0, _, h => by simp at h; subst h; rfl
  | k, d :: ds, i + 1, e, h => by
    have := enumL_get (k + 1) ds i e (by simpa using h)
    rw [show k + 1 + i = k + (i + 1) by omega] at this
    simpa [enumL] using this
theorem getV' {K : PySem.W.Frag} {C : Rc} {F : Hp} {vs : List V} {xs : List α} {i : Nat} {v : V} (r : RpA K C F vs (xs.map en)) (h : vs[i]? = some v) : ∃ x, xs[i]? = some x ∧ Rp K C F v (en x) := by
  obtain ⟨d, q1, q2⟩ := r.getV h
  rw [List.getElem?_map] at q1
  cases z : xs[i]? with
  | none => rw [z] at q1; cases q1
  | some x => rw [z] at q1; cases q1; exact ⟨x, rfl, q2⟩
theorem enum_yields {K : PySem.W.Frag} {F1 : Hp} {vs : List V} {xs : List α} (r : RpA K W.rc F1 vs (xs.map en)) : Yields K W F1 ((enumL 0 xs).map en) (YPair (fun i => some (.int (i : Nat))) (fun i => vs[i]?)) := fun i Ha v Hb Fa hi y z1 z2 => by
  obtain ⟨T, y1, y2, e1, e2, e3, e4, e5⟩ := y
  cases e4
  obtain ⟨d, q1, q2⟩ := getV' r e5
  subst e1; subst e3
  refine ⟨_, upd Fa T (.tup [.int (i : Nat), y2]), get_map (enumL_get 0 xs i d q1), same_upd e2, Ext.one e2 z2, same_upd2 z2, ?_⟩
  rw [Nat.zero_add]
  exact .tup (SqT.of upd_same) (.cons (.int _) (.cons ((q2.up z1).up (Ext.one e2 z2).up) .nil))
section
variable {p pos tpos : Pos} {elts : List Expr} {kk : Nat}
theorem vi_enum {m : R (List α)} (hg : Gl X "enumerate") (hm : X.mg "enumerate" = none) (he : VE X W E ρ .frz e m) (hs : starEach [e] X.env = [(false, eval e X.env)] := by rfl) : VI X W E ρ b0 (.Tuple elts kk tpos) (.Call (.Name "enumerate" p) [e] [] pos) (m.map (enumL 0)) :=
  (pi_enum hg hm (pa_cons (pe_len he) pa_nil (show _ from hs)) hs).wk fun σ H RR ⟨H0, F, k, q⟩ => ⟨H0, F, k, (hd_map q).imp fun xs m1 v H1 F1 fp s1 x1 f1 w1 n1 hlen => by
    have r1 := w1.toRp.2
    cases r1 with
    | @lst p vs ds h1 r =>
      have l : vs.length = xs.length := by rw [r.len, List.length_map]
      refine ⟨p, vs, rfl, sqr_l (sqr_mono f1 h1), m1 _ H1 F1 _ _ s1 x1 f1 (by rw [enumL_len, ← l]; exact sqr_len hlen (sqr_mono f1 h1)) (by rw [enumL_len, ← l]; exact walk_enum (K := X.K) (a := p) (xs := vs)) (fun H2 z => sqr_l (sqr_mono (f1.trans z) h1)) (fun _ H2 z _ => sqr_l (sqr_mono z h1)) (enum_yields r)⟩⟩
theorem vi_enumR {m : R (List α)} (hg : Gl X "enumerate") (hm : X.mg "enumerate" = none) (he : VR X W E ρ b0 (.lst .frz) e m) (hs : starEach [e] X.env = [(false, eval e X.env)] := by rfl) : VI X W E ρ b0 (.Tuple elts kk tpos) (.Call (.Name "enumerate" p) [e] [] pos) (m.map (enumL 0)) :=
  (pi_enum hg hm (pa_cons (pe_len he) pa_nil (show _ from hs)) hs).wk fun σ H RR ⟨H0, F, k, q⟩ => ⟨H0, F, k, (hd_map q).imp fun xs m1 v H1 F1 fp s1 x1 f1 w1 n1 hlen => by
    have w2 : Ow X.K W.rc F1 H1 (.lst .frz) v (.list (xs.map en)) fp := w1
    cases w2 with
    | sc z _ => cases z
    | lst h1 h2 h3 =>
      rename_i p vs fp
      obtain ⟨rfl, r⟩ := h2.toRp
      have l : vs.length = xs.length := by rw [r.len, List.length_map]
      have sl : SqL X.K H1 p vs := SqL.of h1
      refine ⟨p, vs, rfl, sl, m1 _ H1 F1 _ _ s1 x1 f1 (by rw [enumL_len, ← l]; exact hlen.1 p vs (.inl h1)) (by rw [enumL_len, ← l]; exact walk_enum (K := X.K) (a := p) (xs := vs)) (fun H2 z => SqL.of (z _ _ h1)) (fun hb H2 z z0 => ?_) (enum_yields r)⟩
      obtain ⟨o, e'⟩ := n1 hb p List.mem_cons_self
      have e2 := s1 _ _ (k.same _ _ e')
      rw [h1] at e2
      cases e2
      exact SqL.of (z0 _ _ e')⟩
theorem vi_enumT {m : R (Tu α)} (hg : Gl X "enumerate") (hm : X.mg "enumerate" = none) (he : VE X W E ρ .frz e m) (hs : starEach [e] X.env = [(false, eval e X.env)] := by rfl) : VI X W E ρ b0 (.Tuple elts kk tpos) (.Call (.Name "enumerate" p) [e] [] pos) (m.map fun t => enumL 0 t.l) :=
  (pi_enumT hg hm (pa_cons (pe_len he) pa_nil (show _ from hs)) hs).wk fun σ H RR ⟨H0, F, k, q⟩ => ⟨H0, F, k, (hd_map q).imp fun xs m1 v H1 F1 fp s1 x1 f1 w1 n1 hlen => by
    have r1 := w1.toRp.2
    cases r1 with
    | @tup p vs ds h1 r =>
      have l : vs.length = xs.l.length := by rw [r.len, List.length_map]
      refine ⟨p, vs, rfl, sqt_mono f1 h1, m1 _ H1 F1 _ _ s1 x1 f1 (by rw [enumL_len, ← l]; exact sqt_len hlen (sqt_mono f1 h1)) (by rw [enumL_len, ← l]; exact walk_enumT (K := X.K) (a := p) (xs := vs)) (fun H2 z => sqt_mono (f1.trans z) h1) (fun _ H2 z _ => sqt_mono z h1) (enum_yields r)⟩⟩
theorem zip_get : ∀ (as : List α) (bs : List β) (i : Nat) (a : α) (b : β), as[i]? = some a → bs[i]? = some b → (as.zip bs)[i]? = some (a, b) := fun as bs i a b h h' => by
  rw [List.getElem?_zip_eq_some]; exact ⟨h, h'⟩
theorem zip_yields {K : PySem.W.Frag} {F1 : Hp} {vs ws : List V} {xs : List α} {ys : List β} (r : RpA K W.rc F1 vs (xs.map en)) (r' : RpA K W.rc F1 ws (ys.map en)) : Yields K W F1 ((xs.zip ys).map en) (YPair (fun i => vs[i]?) (fun i => ws[i]?)) := fun i Ha v Hb Fa hi y z1 z2 => by
  obtain ⟨T, y1, y2, e1, e2, e3, e4, e5⟩ := y
  obtain ⟨d, q1, q2⟩ := getV' r e4
  obtain ⟨d', q1', q2'⟩ := getV' r' e5
  subst e1; subst e3
  refine ⟨_, upd Fa T (.tup [y1, y2]), get_map (zip_get xs ys i d d' q1 q1'), same_upd e2, Ext.one e2 z2, same_upd2 z2, ?_⟩
  exact .tup (SqT.of upd_same) (.cons ((q2.up z1).up (Ext.one e2 z2).up) (.cons ((q2'.up z1).up (Ext.one e2 z2).up) .nil))
theorem vi_zip {m : R (List α)} {n : R (List β)} (hg : Gl X "zip") (hm : X.mg "zip" = none) (ha : VE X W E ρ .frz a m) (hb : VE X W E ρ .frz b n)
    (hs : starEach [a, b] X.env = (false, eval a X.env) :: starEach [b] X.env := by rfl) (hpl : (backTo pos (starEach [b] X.env)).any (·.1) = false := by rfl) (hs2 : starEach [b] X.env = (false, eval b X.env) :: starEach [] X.env := by rfl) :
    VI X W E ρ b0 (.Tuple elts kk tpos) (.Call (.Name "zip" p) [a, b] [] pos) (m.bind fun xs => n.bind fun ys => .ok (xs.zip ys)) :=
  (pi_zip hg hm (pa_cons ha (pa_cons (pe_len hb) pa_nil hs2) hs) hs hpl).wk fun σ H RR ⟨H0, F, k, q⟩ => ⟨H0, F, k, (hd_bind q).imp fun xs q1 v H1 F1 fp s1 x1 f1 w1 _ => ⟨H0, F1, k.grow s1 x1 f1, ((hd_bind q1).heap s1).imp fun ys m1 u H2 F2 fq s2 x2 f2 w2 _ hlen => by
    have r1 := w1.toRp.2
    have r2 := w2.toRp.2
    cases r1 with
    | @lst p vs ds h1 r =>
      cases r2 with
      | @lst p' ws es h3 r' =>
        have m1 := m1 
        have l : vs.length = xs.length := by rw [r.len, List.length_map]
        have l' : ws.length = ys.length := by rw [r'.len, List.length_map]
        have h1' := sqr_mono x2.up h1
        have hz : (xs.zip ys).length = min vs.length ws.length := by rw [List.length_zip, l, l']
        have hl : (xs.zip ys).length ≤ sizeLine := by
          have := sqr_len hlen (sqr_mono f2 h1')
          omega
        refine ⟨p, p', vs, ws, rfl, sqr_l (sqr_mono f2 h1'), sqr_l (sqr_mono f2 h3), ?_⟩
        exact (show (∀ J H' F' G Y, Same H H' → Ext F H F' → Same F' H' → (xs.zip ys).length ≤ sizeLine → Walk J (xs.zip ys).length G Y → (∀ H2, Same H' H2 → G H2) → (b0 = true → ∀ H2, Same F' H2 → Same H0 H2 → G H2) → Yields X.K W F' ((xs.zip ys).map en) Y → RR J H') from m1) _ H2 F2 _ _ (s1.trans s2) (x1.trans s1 x2) f2 hl (walk_zip (K := X.K) (a := p) (b := p') (xs := vs) (ys := ws) hz) (fun H3 z => ⟨sqr_l (sqr_mono (f2.trans z) h1'), sqr_l (sqr_mono (f2.trans z) h3)⟩) (fun _ H3 z _ => ⟨sqr_l (sqr_mono z h1'), sqr_l (sqr_mono z h3)⟩) (zip_yields (r.up x2.up) r')⟩⟩
end
end
end Tx

set_option Elab.async false
set_option linter.all false
set_option maxRecDepth 100000
set_option maxHeartbeats 4000000
/-! A8: targets, comprehensions. -/
namespace Tx
open PySem L2 En EnL

abbrev GF := D → Env → Option Env
def gN (i : Nat) : GF := fun d ρ => some (se ρ i (.vl .fz d))
def gsN : List D → Env → Option Env
  | [], ρ => some ρ
  | _ :: _, _ => none
def gsC (g : GF) (r : List D → Env → Option Env) : List D → Env → Option Env
  | [], _ => none
  | d :: ds, ρ => match g d ρ with
    | some ρ' => r ds ρ'
    | none => none
def gT (n : Nat) (t : List D → Env → Option Env) : GF := fun d ρ => match d with
  | .tuple xs => bif Nat.beq xs.length n then t xs ρ else none
  | _ => none
/-- only slots of P have changed -/
def Diff (P : Nat → Bool) (σ σ' : L2.St) : Prop := σ'.length = σ.length ∧ ∀ j, P j = false → σ'[j]? = σ[j]?
theorem Diff.refl (P : Nat → Bool) (σ : L2.St) : Diff P σ σ := ⟨rfl, fun _ _ => rfl⟩
theorem Diff.trans {P : Nat → Bool} {σ σ1 σ2 : L2.St} (a : Diff P σ σ1) (b : Diff P σ1 σ2) : Diff P σ σ2 := ⟨b.1.trans a.1, fun j h => (b.2 j h).trans (a.2 j h)⟩
theorem Diff.set {P : Nat → Bool} (σ : L2.St) {i : Nat} {v : Option V} (h : P i = true) : Diff P σ (σ.set i v) := ⟨by simp, fun j z => List.getElem?_set_ne fun e => by subst e; rw [h] at z; cases z⟩
def tG (K : PySem.W.Frag) (W : Vp) (L : Nat) (P : Nat → Bool) (g : GF) : L2.TG := fun v σ H Q => ∃ H0 F ρ d ρ', EnvS K W.rc H0 F H L σ ρ ∧ Rp K W.rc F v d ∧ g d ρ = some ρ' ∧ ∀ σ', EnvS K W.rc H0 F H L σ' ρ' → Diff P σ σ' → Q σ' H
def tGs (K : PySem.W.Frag) (W : Vp) (L : Nat) (P : Nat → Bool) (g : List D → Env → Option Env) : TGs := fun vs σ H Q => ∃ H0 F ρ ds ρ', EnvS K W.rc H0 F H L σ ρ ∧ RpA K W.rc F vs ds ∧ g ds ρ = some ρ' ∧ ∀ σ', EnvS K W.rc H0 F H L σ' ρ' → Diff P σ σ' → Q σ' H
abbrev VG (X : Cx) (W : Vp) (P : Nat → Bool) (tg : Expr) (g : GF) : Prop := PG X tg (tG X.K W X.N.length P g)
abbrev VGs (X : Cx) (W : Vp) (P : Nat → Bool) (tg : List Expr) (g : List D → Env → Option Env) : Prop := PGs X tg (tGs X.K W X.N.length P g)
section
variable {X : Cx} {W : Vp} {P : Nat → Bool} {tg : Expr} {tgs : List Expr} {pos : Pos}
theorem vg_name {i : Nat} (h : PG X tg (gName i)) (hi : Nat.blt i X.N.length = true := by rfl) (hp : P i = true := by rfl) : VG X W P tg (gN i) := h.wk fun v σ H Q ⟨H0, F, ρ, d, ρ', k, r, e, q⟩ => by
  cases e
  exact q _ (k.set (Nat.le_of_ble_eq_true hi) r) (Diff.set σ hp)
theorem vgs_nil : VGs X W P [] gsN := pgs_nil.wk fun vs σ H Q ⟨H0, F, ρ, ds, ρ', k, r, e, q⟩ => by
  cases r with
  | nil => cases e; exact ⟨rfl, q _ k (Diff.refl P σ)⟩
  | cons _ _ => cases e
theorem vgs_cons {g : GF} {gs : List D → Env → Option Env} (h1 : VG X W P tg g) (h2 : VGs X W P tgs gs) (hs : (assignEach (tg :: tgs) X.env).map (·.2) = assign tg X.env :: (assignEach tgs X.env).map (·.2) := by rfl) : VGs X W P (tg :: tgs) (gsC g gs) :=
  (pgs_cons h1 h2 hs).wk fun vs σ H Q ⟨H0, F, ρ, ds, ρ', k, r, e, q⟩ => by
    cases r with
    | nil => cases e
    | @cons v vs d ds r1 r2 =>
      have e : (match g d ρ with | some ρ' => gs ds ρ' | none => none) = some ρ' := e
      cases hg : g d ρ with
      | none => rw [hg] at e; cases e
      | some ρ1 =>
        rw [hg] at e
        exact ⟨v, vs, rfl, H0, F, ρ, d, ρ1, k, r1, hg, fun σ1 k1 d1 => ⟨H0, F, ρ1, ds, ρ', k1, r2, e, fun σ2 k2 d2 => q σ2 k2 (d1.trans d2)⟩⟩
theorem vg_tup {n k : Nat} {gs : List D → Env → Option Env} (hc : X.calm = true) (h : VGs X W P tgs gs) (hn : (assignEach tgs X.env).length = n := by rfl) (hst : (assignEach tgs X.env).findIdx? (·.1) = none := by rfl) : VG X W P (.Tuple tgs k pos) (gT n gs) :=
  (pg_tup hc h hn hst).wk fun v σ H Q ⟨H0, F, ρ, d, ρ', kk, r, e, q⟩ => by
    cases r with
    | @tup a xs ds h1 h2 =>
      have e : (bif Nat.beq ds.length n then gs ds ρ else none) = some ρ' := e
      cases z : Nat.beq ds.length n with
      | true =>
        rw [z] at e
        exact ⟨a, xs, rfl, sqt_mono kk.sub h1, by rw [h2.len]; exact Nat.eq_of_beq_eq_true z, H0, F, ρ, ds, ρ', kk, h2, e, q⟩
      | false => rw [z] at e; cases e
    | _ => cases e
end

/-! ### comprehensions -/
abbrev EN : L2.St → XK := fun _ _ _ _ => False
def wE (ρ : Env) : List Nat → Env
  | [] => ρ
  | v :: vs => se (wE ρ vs) v .un
/-- an exception within a comprehension is not served -/
def noX {α : Type} : R α → R α
  | .ok a => .ok a
  | _ => .no
@[simp] theorem noX_ok {α : Type} (a : α) : noX (.ok a) = .ok a := rfl
section
variable {K : PySem.W.Frag} {C : Rc} {H0 F H : Hp} {L : Nat} {σ : L2.St} {ρ : Env}
theorem EnvS.forget (k : EnvS K C H0 F H L σ ρ) (i : Nat) : EnvS K C H0 F H L (σ.set i none) (se ρ i .un) := by
  obtain ⟨fp, o1, o2⟩ := k.sl
  refine ⟨k.same, k.sub, by rw [List.length_set]; exact k.len, fp, fun j m d e => ?_, fun a b s r d t q e n h1 h2 => ?_⟩
  · have ne : j ≠ i := fun z => by subst z; rw [se_same] at e; cases e
    rw [se_ne _ _ ne] at e
    rw [List.getElem?_set_ne (Ne.symm ne)]
    exact o1 j m d e
  · have na : a ≠ i := fun z => by subst z; rw [se_same] at h1; cases h1
    have nb : b ≠ i := fun z => by subst z; rw [se_same] at h2; cases h2
    rw [se_ne _ _ na] at h1
    rw [se_ne _ _ nb] at h2
    exact o2 a b s r d t q e n h1 h2
theorem EnvS.wipe (k : EnvS K C H0 F H L σ ρ) : ∀ vs : List Nat, EnvS K C H0 F H L (wipe σ vs) (wE ρ vs)
  | [] => k
  | v :: vs => (EnvS.wipe k vs).forget v
theorem wipe_get : ∀ (vs : List Nat) (σ : L2.St) (j : Nat), (L2.wipe σ vs)[j]? = if j ∈ vs then (σ[j]?).map (fun _ => none) else σ[j]?
  | [], σ, j => by simp [L2.wipe]
  | v :: vs, σ, j => by
    unfold L2.wipe
    have ih := wipe_get vs σ j
    by_cases h : j = v
    · subst h
      rw [List.getElem?_set]
      simp only [if_true, List.mem_cons, true_or, if_true, L2.wipe_length]
      by_cases hl : j < σ.length
      · rw [if_pos hl, List.getElem?_eq_getElem hl]; rfl
      · rw [if_neg hl, List.getElem?_eq_none (by omega)]; rfl
    · rw [List.getElem?_set_ne (Ne.symm h), ih]
      simp only [List.mem_cons, h, false_or]
theorem Diff.wipe {vs : List Nat} {σ σ2 : L2.St} (d : Diff (fun i => vs.contains i) (L2.wipe σ vs) σ2) : L2.wipe σ2 vs = L2.wipe σ vs := by
  obtain ⟨l, h⟩ := d
  rw [L2.wipe_length] at l
  apply List.ext_getElem?
  intro j
  rw [wipe_get, wipe_get]
  by_cases hj : j ∈ vs
  · rw [if_pos hj, if_pos hj]
    by_cases hl : j < σ.length
    · rw [List.getElem?_eq_getElem hl, List.getElem?_eq_getElem (by omega : j < σ2.length)]; rfl
    · rw [List.getElem?_eq_none (by omega), List.getElem?_eq_none (by omega)]
  · rw [if_neg hj, if_neg hj, h j (by simpa using hj), wipe_get, if_neg hj]
end
theorem hd_noX {α : Type} {E : XK} {W : Vp} {H H' : Hp} {r : R α} {k : α → Prop} (h : Hd E W H (noX r) k) : Hd (fun _ _ _ => False) W H' r k := by
  cases r with
  | ok a => exact h
  | ex c => exact False.elim h
  | no => exact h
theorem lc_read {K : PySem.W.Frag} {W : Vp} {E : L2.St → XK} {L : Nat} {ρ : Env} {s : Sh} {α β : Type} [En α] [En β] {m : R (List α)} {g : GF} {ρx : α → Env} {t : α → R Bool} {f : α → R β} {vs : List Nat} (hg : ∀ x, g (en x) (wE ρ vs) = some (ρx x)) (σ : L2.St) (H : Hp) (Q : VK)
    (h : tE K W E L ρ (.lst s) (m.bind fun xs => noX (fmapR t f xs)) σ H Q) :
    tLc (tI K W E L ρ false m) (tG K W L (fun i => vs.contains i) g) (fun σ H Q => ∃ x, tT K W EN L (ρx x) (t x) σ H Q) (fun σ H Q => ∃ x, tE K W EN L (ρx x) s (f x) σ H Q) vs σ H Q := by
  obtain ⟨H0, F, k, q⟩ := h
  refine ⟨H0, F, k, (hd_bind q).imp fun xs m1 J H1 F1 G Y s1 x1 f1 hlen wk hG _ hY => ?_⟩
  have m2 := hd_noX (H' := H) m1
  intro A hA
  have k1 := (k.grow s1 x1 f1).wipe vs
  have lx : (xs.map en).length = xs.length := List.length_map ..
  refine lc_it (g := tG K W L (fun i => vs.contains i) g) (tt := fun σ H Q => ∃ x, tT K W EN L (ρx x) (t x) σ H Q) (te := fun σ H Q => ∃ x, tE K W EN L (ρx x) s (f x) σ H Q) wk (fun i H2 => ∃ F2 vs2 ds2 fp2, Ext F1 H1 F2 ∧ Same F2 H2 ∧ Same H1 H2 ∧ F2 A = none ∧ H2 A = some (.lst vs2) ∧ OwA K W.rc F2 H2 s vs2 ds2 fp2 ∧ (∀ a ∈ fp2, H1 a = none ∧ F2 a = none ∧ a ≠ A) ∧ ds2.length ≤ i ∧
    Hd (fun _ _ _ => False) W H (fmapR t f (xs.drop i)) fun rest => Post K W F H (.lst s) Q (.list (ds2 ++ rest.map en))) ?_ ?_ ?_ ?_
  · exact ⟨F1, [], [], [], Ext.refl F1 H1, f1.trans (same_upd hA), same_upd hA, none_back f1 hA, upd_same, .nil, fun a ha => (nomatch ha), Nat.le_refl _, m2.imp fun xs q => q⟩
  · rintro i H2 hi ⟨F2, vs2, ds2, fp2, e1, e2, e3, _⟩
    exact hG H2 e3
  · rintro i v Ha Hb hi ⟨F2, vs2, ds2, fp2, e1, e2, e3, e4, e5, e6, e6n, e7, e8⟩ hy
    obtain ⟨d, F3, q1, q2, q3, q4, q5⟩ := hY i Ha v Hb F2 (by rw [lx]; exact hi) hy e1.up e2
    obtain ⟨x, hx, hd⟩ : ∃ x, xs[i]? = some x ∧ d = en x := by
      rw [List.getElem?_map] at q1
      cases z : xs[i]? with
      | none => rw [z] at q1; cases q1
      | some x => rw [z] at q1; cases q1; exact ⟨x, rfl, rfl⟩
    subst hd
    have dd : xs.drop i = x :: xs.drop (i + 1) := by
      obtain ⟨hlt, rfl⟩ := List.getElem?_eq_some_iff.mp hx
      exact List.drop_eq_getElem_cons hlt
    rw [dd] at e8
    have e9 := hd_bind (show Hd (fun _ _ _ => False) W H ((t x).bind fun c => match c with
      | true => (f x).bind fun y => (fmapR t f (xs.drop (i + 1))).bind fun ys => .ok (y :: ys)
      | false => fmapR t f (xs.drop (i + 1))) _ from e8)
    have F13 : Same F1 F3 := e1.up.trans q3.up
    have H13 : Same H1 Hb := e3.trans q2
    have live2 : ∀ a ∈ fp2, Hb a = Ha a := fun a ha => by
      obtain ⟨o, e⟩ := e6.live a ha
      exact (q2 a o e).trans e.symm
    have e6' : OwA K W.rc F3 Hb s vs2 ds2 fp2 := e6.mono q3.up live2
    have n3 : ∀ a ∈ fp2, F3 a = none := fun a ha => by
      obtain ⟨o, e⟩ := e6.live a ha
      exact q3.out e (e6n a ha).2.1
    have x13 : Ext F1 H1 F3 := e1.trans e3 q3
    have kb : EnvS K W.rc H0 F3 Hb L (L2.wipe σ vs) (wE ρ vs) := k1.grow H13 x13 q4
    refine ⟨H0, F3, wE ρ vs, en x, ρx x, kb, q5, hg x, fun σ2 k2 df => ⟨df.wipe, ?_⟩⟩
    have A3 : F3 A = none := q3.out e5 e4
    refine ⟨x, H0, F3, k2, (e9.heap (s1.trans H13)).imp fun c e11 Hc sc => ?_⟩
    have live3 : ∀ a ∈ fp2, Hc a = Hb a := fun a ha => by
      obtain ⟨o, e⟩ := e6'.live a ha
      exact (sc a o e).trans e.symm
    cases c with
    | false =>
      show ∃ F2 vs2 ds2 fp2, _
      exact ⟨F3, vs2, ds2, fp2, x13, q4.trans sc, H13.trans sc, A3, sc _ _ (q2 _ _ e5), e6'.mono (Same.refl F3) live3, fun a ha => ⟨(e6n a ha).1, n3 a ha, (e6n a ha).2.2⟩, by omega, e11⟩
    | true =>
      show ∃ x, tE K W EN L (ρx x) s (f x) σ2 Hc _
      have e12 := hd_bind (show Hd (fun _ _ _ => False) W H ((f x).bind _) _ from e11)
      refine ⟨x, H0, F3, k2.heap sc, (e12.heap ((s1.trans H13).trans sc)).imp fun y e13 w Hd' F4 fq sd xd fd wd nd => ?_⟩
      have A4 : F4 A = none := xd.out (sc _ _ (q2 _ _ e5)) A3
      have e14 := hd_bind e13
      have hAd : Hd' A = some (.lst vs2) := sd _ _ (sc _ _ (q2 _ _ e5))
      have live4 : ∀ a ∈ fp2, Hd' a = Hc a := fun a ha => by
        obtain ⟨o, e⟩ := (e6'.mono (Same.refl F3) live3).live a ha
        exact (sd a o e).trans e.symm
      have e6d : OwA K W.rc F4 Hd' s vs2 ds2 fp2 := (e6'.mono (Same.refl F3) live3).mono xd.up live4
      have n4 : ∀ a ∈ fp2, F4 a = none := fun a ha => by
        obtain ⟨o, e⟩ := (e6'.mono (Same.refl F3) live3).live a ha
        exact xd.out e (n3 a ha)
      have qA : ∀ a ∈ fq, a ≠ A := fun a ha z => by
        subst z
        have := (nd _ ha).1
        rw [sc _ _ (q2 _ _ e5)] at this
        cases this
      have l2 := e6d.len
      obtain ⟨fr, r1, r2⟩ := OwA.snoc wd e6d fun a ha hb => by
        obtain ⟨o, e⟩ := (e6'.mono (Same.refl F3) live3).live a ha
        rw [(nd a hb).1] at e; cases e
      have rA : ∀ a ∈ fr, a ≠ A := fun a ha => by
        rcases (r1 a).mp ha with h | h
        · exact (e6n a h).2.2
        · exact qA a h
      refine ⟨vs2, hAd, by omega, F4, vs2 ++ [w], ds2 ++ [en y], fr, x13.trans (H13.trans sc) xd, fun a u q => ?_, fun a u q => ?_, A4, upd_same, r2.mono (Same.refl F4) fun a ha => upd_ne (rA a ha), fun a ha => ?_, by simp; omega, e14.imp fun rest k => ?_⟩
      · rw [upd_ne (fun z => by rw [z, A4] at q; cases q)]
        exact fd a u q
      · rw [upd_ne (ne_of_none q hA)]
        exact sd a u (sc a u (H13 a u q))
      · rcases (r1 a).mp ha with h | h
        · exact ⟨(e6n a h).1, n4 a h, rA a ha⟩
        · exact ⟨none_back (H13.trans sc) (nd a h).1, (nd a h).2, rA a ha⟩
      · rw [List.append_assoc]; exact k
  · rintro H2 ⟨F2, vs2, ds2, fp2, e1, e2, e3, e4, e5, e6, e6n, e7, e8⟩
    rw [List.drop_length] at e8
    have k : Post K W F H (.lst s) Q (.list (ds2 ++ [])) := e8
    rw [List.append_nil] at k
    refine k (.ref A) H2 F2 (A :: fp2) (s1.trans e3) (x1.trans s1 e1) e2 (.lst e5 e6 fun h => (e6n A h).2.2 rfl) fun a ha => ?_
    rcases List.mem_cons.mp ha with rfl | ha
    · exact ⟨none_back s1 hA, e4⟩
    · exact ⟨none_back s1 (e6n a ha).1, (e6n a ha).2.1⟩
section
variable {X : Cx} {W : Vp} {E : L2.St → XK} {ρ : Env} {s : Sh} {α β : Type} [En α] [En β] {elt tg iter : Expr} {ifs : List Expr} {scope : Scope} {own : List (Str × Nat)} {pos : Pos} {m : R (List α)} {g : GF} {ρx : α → Env} {t : α → R Bool} {f : α → R β}
theorem pe_any {X : Cx} {e : Expr} {α : Type} {t : α → TE} (h : ∀ x, PE X e (t x)) : PE X e (fun σ H Q => ∃ x, t x σ H Q) := ⟨fun pins s σ H Q I ⟨x, q⟩ => (h x).run pins s σ H Q I q⟩
theorem pts_any {X : Cx} {e : List Expr} {α : Type} {t : α → TT} (h : ∀ x, PTs X e (t x)) : PTs X e (fun σ H Q => ∃ x, t x σ H Q) := ⟨fun pins s σ H Q I ⟨x, q⟩ => (h x).run pins s σ H Q I q⟩
abbrev VTs (X : Cx) (W : Vp) (ρ : Env) (ifs : List Expr) (t : R Bool) : Prop := PTs X ifs (tT X.K W EN X.N.length ρ t)
theorem vts_nil {X : Cx} : VTs X W ρ [] (.ok true) := pts_nil.wk fun σ H Q ⟨H0, F, k, m⟩ => okH m H (Same.refl H)
theorem vts_one {X : Cx} {c : Expr} {t : R Bool} (h : VT X W EN ρ c t) : VTs X W ρ [c] t := pts_one h
theorem vn_lc (hc : X.calm = true) (hN : X.N.Nodup) (hi : VI X W E ρ false tg iter m) (ok : BlkOk X.N X.env.scope scope own)
    (hg : ∀ (s : Shared) (H : Hp) (C : Addr) (cl : List (Str × Addr)) (fp : List Addr), VG (X.blk s H scope (compEnvC scope cl C X.env) fp) W (fun i => (own.map (·.2)).contains i) tg g)
    (hx : ∀ x, g (en x) (wE ρ (own.map (·.2))) = some (ρx x))
    (ht : ∀ (x : α) (s : Shared) (H : Hp) (C : Addr) (cl : List (Str × Addr)) (fp : List Addr), VTs (X.blk s H scope (compEnvC scope cl C X.env) fp) W (ρx x) ifs (t x))
    (he : ∀ (x : α) (sh : Shared) (H : Hp) (C : Addr) (cl : List (Str × Addr)) (fp : List Addr), VE (X.blk sh H scope (compEnvC scope cl C X.env) fp) W EN (ρx x) s elt (f x)) (hs : ∀ z, foldedSetIterable iter X.env z = pure z := by intro _; rfl) :
    VE X W E ρ (.lst s) (.ListComp elt [⟨tg, iter, ifs, 0⟩] scope pos) (m.bind fun xs => noX (fmapR t f xs)) :=
  (pe_lc hc hN hi ok hg (fun s H C cl fp => pts_any fun x => ht x s H C cl fp) (fun s H C cl fp => pe_any fun x => he x s H C cl fp) hs).wk (lc_read hx)
theorem fmapR_ok {p : α → Bool} {h : α → β} : ∀ xs : List α, fmapR (fun x => .ok (p x)) (fun x => .ok (h x)) xs = .ok ((xs.filter p).map h)
  | [] => rfl
  | x :: xs => by
    show (match p x with | true => _ | false => _) = _
    rw [fmapR_ok xs, List.filter_cons]
    cases p x <;> rfl
theorem fmapR_true {f : α → R β} : ∀ xs : List α, fmapR (fun _ => .ok true) f xs = mapR f xs
  | [] => rfl
  | x :: xs => by
    show (f x).bind _ = (f x).bind _
    rw [fmapR_true xs]
theorem mapR_ok {h : α → β} : ∀ xs : List α, mapR (fun x => .ok (h x)) xs = .ok (xs.map h)
  | [] => rfl
  | x :: xs => by
    show (mapR _ xs).bind _ = _
    rw [mapR_ok xs]; rfl
end
end Tx

set_option Elab.async false
set_option linter.all false
set_option maxRecDepth 100000
set_option maxHeartbeats 4000000
/-! A9: statements: control. -/
namespace Tx
open PySem L2 En EnL

/-- an exception out of a statement: nothing is told of the slots -/
def HdS {α : Type} (E : L2.St → XK) (W : Vp) (H : Hp) (r : R α) (k : α → Prop) : Prop :=
  match r with
  | .ok a => k a
  | .ex c => ∀ σ H', Same H H' → E σ (.ref (W.ea c)) none H'
  | .no => False
section
variable {α β : Type} {E : L2.St → XK} {W : Vp} {H H' : Hp} {r : R α} {k k' : α → Prop}
theorem hds_bind {f : α → R β} {k : β → Prop} (h : HdS E W H (r.bind f) k) : HdS E W H r fun a => HdS E W H (f a) k := by
  cases r with
  | ok a => exact h
  | ex c => exact h
  | no => exact h
theorem hds_map {f : α → β} {k : β → Prop} (h : HdS E W H (r.map f) k) : HdS E W H r fun a => k (f a) := by
  cases r with
  | ok a => exact h
  | ex c => exact h
  | no => exact h
theorem HdS.imp (h : HdS E W H r k) (i : ∀ a, k a → k' a) : HdS E W H r k' := by
  cases r with
  | ok a => exact i a h
  | ex c => exact h
  | no => exact h
theorem HdS.hd (σ : L2.St) (h : HdS E W H r k) (s : Same H H') : Hd (E σ) W H' r k := by
  cases r with
  | ok a => exact h
  | ex c => exact fun H2 z => h σ H2 (s.trans z)
  | no => exact h
/-- towards a larger base -/
theorem HdS.up (h : HdS E W H r k) (s : Same H H') : HdS E W H' r k := by
  cases r with
  | ok a => exact h
  | ex c => exact fun σ H2 z => h σ H2 (s.trans z)
  | no => exact h
end
/-- how a block ends -/
inductive Out where
  | nx (ρ : Env)
  | ct (ρ : Env)
  | nc (ρ : Env)
  | bk (ρ : Env)
  | rt (s : Sh) (d : D) (io : Option (V × Sh × D))
  | xx
def dn : Out → Out
  | .nx _ => .xx
  | .nc ρ => .ct ρ
  | o => o
def rtO : Out → Out
  | .rt s d io => .rt s d io
  | _ => .xx
def SPost (K : PySem.W.Frag) (W : Vp) (L : Nat) (H0 F0 : Hp) (De : Ends) : Out → Prop
  | .nx ρ' => ∀ σ' H' F', EnvS K W.rc H0 F' H' L σ' ρ' → Ext F0 H0 F' → De.nx σ' H'
  | .ct ρ' => ∀ σ' H' F', EnvS K W.rc H0 F' H' L σ' ρ' → Ext F0 H0 F' → De.ct σ' H'
  | .nc ρ' => ∀ σ' H' F', EnvS K W.rc H0 F' H' L σ' ρ' → Ext F0 H0 F' → De.nx σ' H' ∧ De.ct σ' H'
  | .bk ρ' => ∀ σ' H' F', EnvS K W.rc H0 F' H' L σ' ρ' → Ext F0 H0 F' → De.bk σ' H'
  | .rt s d none => ∀ v H' F' fp, Same H0 H' → Ext F0 H0 F' → Same F' H' → Ow K W.rc F' H' s v d fp → (∀ a ∈ fp, H0 a = none ∧ F' a = none) → De.rt v H'
  | .rt s d (some (u, s2, d2)) => ∀ v H' F' fp fq, Same H0 H' → Ext F0 H0 F' → Same F' H' → Ow K W.rc F' H' s v d fp → Ow K W.rc F' H' s2 u d2 fq → (∀ a ∈ fp, H0 a = none ∧ F' a = none) → (∀ a ∈ fq, H0 a = none ∧ F' a = none) → (∀ a ∈ fp, a ∉ fq) → De.rt v H'
  | .xx => True
def tB {β : Type} (K : PySem.W.Frag) (W : Vp) (E : L2.St → XK) (L : Nat) (ρ : Env) (m : R β) (out : β → Out) : TS := fun De σ H => ∃ H0 F0 F, EnvS K W.rc H0 F H L σ ρ ∧ Ext F0 H0 F ∧ HdS E W H0 m fun b => SPost K W L H0 F0 De (out b)
abbrev VB {β : Type} (X : Cx) (W : Vp) (E : L2.St → XK) (ρ : Env) (sts : List Stmt) (m : R β) (out : β → Out) : Prop := PSs X sts (tB X.K W E X.N.length ρ m out)
theorem pss_any {X : Cx} {sts : List Stmt} {α : Type} {t : α → TS} (h : ∀ x, PSs X sts (t x)) : PSs X sts (fun D σ H => ∃ x, t x D σ H) := ⟨fun pins s σ H D I ⟨x, q⟩ => (h x).run pins s σ H D I q⟩
theorem pt_any {X : Cx} {e : Expr} {α : Type} {t : α → TT} (h : ∀ x, PT X e (t x)) : PT X e (fun σ H Q => ∃ x, t x σ H Q) := ⟨fun pins s σ H Q I ⟨x, q⟩ => (h x).run pins s σ H Q I q⟩
section
variable {K : PySem.W.Frag} {W : Vp} {L : Nat} {H0 F0 F1 : Hp} {De De' : Ends}
theorem Ext.two {F0 H0 F F' : Hp} (a : Ext F0 H0 F) (b : Ext F H0 F') : Ext F0 H0 F' := a.trans (Same.refl H0) b
/-- the frozen part that is told may be the later one -/
theorem SPost.base (x : Ext F0 H0 F1) : ∀ {o : Out}, SPost K W L H0 F0 De o → SPost K W L H0 F1 De o
  | .nx _, h => fun σ' H' F' k x' => h σ' H' F' k (x.two x')
  | .ct _, h => fun σ' H' F' k x' => h σ' H' F' k (x.two x')
  | .nc _, h => fun σ' H' F' k x' => h σ' H' F' k (x.two x')
  | .bk _, h => fun σ' H' F' k x' => h σ' H' F' k (x.two x')
  | .rt _ _ none, h => fun v H' F' fp a b c d e => h v H' F' fp a (x.two b) c d e
  | .rt _ _ (some _), h => fun v H' F' fp fq a b c d e f g i => h v H' F' fp fq a (x.two b) c d e f g i
  | .xx, _ => trivial
theorem SPost.dn {N : L2.St → Hp → Prop} : ∀ {o : Out}, SPost K W L H0 F0 De o → SPost K W L H0 F0 { De with nx := N } (dn o)
  | .nx _, _ => trivial
  | .ct _, h => h
  | .nc _, h => fun σ' H' F' k x' => (h σ' H' F' k x').2
  | .bk _, h => h
  | .rt _ _ none, h => h
  | .rt _ _ (some _), h => h
  | .xx, _ => trivial
theorem SPost.rtO {N B T : L2.St → Hp → Prop} : ∀ {o : Out}, SPost K W L H0 F0 De o → SPost K W L H0 F0 { De with nx := N, bk := B, ct := T } (rtO o)
  | .nx _, _ => trivial
  | .ct _, _ => trivial
  | .nc _, _ => trivial
  | .bk _, _ => trivial
  | .rt _ _ none, h => h
  | .rt _ _ (some _), h => h
  | .xx, _ => trivial
end
section
variable {X : Cx} {W : Vp} {E : L2.St → XK} {ρ ρ' : Env} {st : Stmt} {rest : List Stmt} {e c : Expr} {pos : Pos} {i : Nat} {s : Sh}
variable {α β S : Type} [En α] {m : R α} {k : α → R β} {out : β → Out} {b : β} {t : R Bool}

theorem vb_eq {m m' : R β} (h : VB X W E ρ rest m out) (q : m = m') : VB X W E ρ rest m' out := q ▸ h
theorem vb_le {m : R β} (h : VB X W E ρ' rest m out) (l : Le ρ' ρ) : VB X W E ρ rest m out := h.wk fun De σ H ⟨H0, F0, F, k, x, q⟩ => ⟨H0, F0, F, k.le l, x, q⟩
theorem vb_frz {m : R β} {r : Option V} {d : D} (i : Nat) (hi : ρ i = .vl (.ow s r) d) (h : VB X W E (se ρ i (.vl .fz d)) rest m out) : VB X W E ρ rest m out := h.wk fun De σ H ⟨H0, F0, F, k, x, q⟩ => by
  obtain ⟨F', _, x', k'⟩ := k.frz hi
  exact ⟨H0, F0, F', k', x.two x', q⟩
theorem vb_nil (h : out b = .nx ρ') (l : Le ρ' ρ) : VB X W E ρ [] (.ok b) out := pss_nil.wk fun De σ H ⟨H0, F0, F, k, x, q⟩ => by
  have q : SPost X.K W X.N.length H0 F0 De (out b) := q
  rw [h] at q
  exact q σ H F (k.le l) x
theorem vb_nilC (h : out b = .nc ρ') (l : Le ρ' ρ) : VB X W E ρ [] (.ok b) out := pss_nil.wk fun De σ H ⟨H0, F0, F, k, x, q⟩ => by
  have q : SPost X.K W X.N.length H0 F0 De (out b) := q
  rw [h] at q
  exact (q σ H F (k.le l) x).1
theorem vb_cnt (h : out b = .ct ρ') (l : Le ρ' ρ) : VB X W E ρ [.Continue pos] (.ok b) out := (pss_one ps_continue).wk fun De σ H ⟨H0, F0, F, k, x, q⟩ => by
  have q : SPost X.K W X.N.length H0 F0 De (out b) := q
  rw [h] at q
  exact q σ H F (k.le l) x
theorem vb_cntC (h : out b = .nc ρ') (l : Le ρ' ρ) : VB X W E ρ [.Continue pos] (.ok b) out := (pss_one ps_continue).wk fun De σ H ⟨H0, F0, F, k, x, q⟩ => by
  have q : SPost X.K W X.N.length H0 F0 De (out b) := q
  rw [h] at q
  exact (q σ H F (k.le l) x).2
theorem vb_brk (h : out b = .bk ρ') (l : Le ρ' ρ) : VB X W E ρ [.Break pos] (.ok b) out := (pss_one ps_break).wk fun De σ H ⟨H0, F0, F, k, x, q⟩ => by
  have q : SPost X.K W X.N.length H0 F0 De (out b) := q
  rw [h] at q
  exact q σ H F (k.le l) x
theorem vb_pass {m : R β} (h : VB X W E ρ rest m out) : VB X W E ρ (.Pass pos :: rest) m out := (pss_cons ps_pass h).wk fun De σ H q => q
theorem vb_passL {m : R β} (h : VB X W E ρ [] m out) : VB X W E ρ [.Pass pos] m out := vb_pass h

/-! ### names -/
theorem vb_set (h : PS X st (tAsg (tE X.K W E X.N.length ρ .frz m) (gName i))) (hr : ∀ a, VB X W E (se ρ i (.vl .fz (en a))) rest (k a) out) (hi : Nat.blt i X.N.length = true := by rfl) : VB X W E ρ (st :: rest) (m.bind k) out :=
  (pss_cons h (pss_any hr)).wk fun De σ H ⟨H0, F0, F, kk, x, q⟩ => ⟨H0, F, kk, ((hds_bind q).hd σ kk.same).imp fun a q v H1 F1 fp s1 x1 f1 w _ => ⟨a, H0, F0, F1, (kk.grow s1 x1 f1).set (Nat.le_of_ble_eq_true hi) w.toRp.2, x.trans kk.same x1, q⟩⟩
theorem vb_setN (h : PS X st (tAsg (tE X.K W E X.N.length ρ s m) (gName i))) (hr : ∀ a, VB X W E (se ρ i (.vl (.ow s none) (en a))) rest (k a) out) (hi : Nat.blt i X.N.length = true := by rfl) : VB X W E ρ (st :: rest) (m.bind k) out :=
  (pss_cons h (pss_any hr)).wk fun De σ H ⟨H0, F0, F, kk, x, q⟩ => ⟨H0, F, kk, ((hds_bind q).hd σ kk.same).imp fun a q v H1 F1 fp s1 x1 f1 w n => ⟨a, H0, F0, F1, kk.setN (Nat.le_of_ble_eq_true hi) s1 x1 f1 w n, x.trans kk.same x1, q⟩⟩
theorem vb_asg {P : Nat → Bool} {g : GF} {ρx : α → Env} (h : PS X st (tAsg (tE X.K W E X.N.length ρ .frz m) (tG X.K W X.N.length P g))) (hr : ∀ a, VB X W E (ρx a) rest (k a) out) (hg : ∀ a, g (en a) ρ = some (ρx a) := by intro _; rfl) : VB X W E ρ (st :: rest) (m.bind k) out :=
  (pss_cons h (pss_any hr)).wk fun De σ H ⟨H0, F0, F, kk, x, q⟩ => ⟨H0, F, kk, ((hds_bind q).hd σ kk.same).imp fun a q v H1 F1 fp s1 x1 f1 w n => ⟨H0, F1, ρ, en a, ρx a, kk.grow s1 x1 f1, w.toRp.2, hg a, fun σ' k' _ => ⟨a, H0, F0, F1, k', x.trans kk.same x1, q⟩⟩⟩
theorem vb_do {k : R β} (h : PS X st (tDrop (tE X.K W E X.N.length ρ s m))) (hr : VB X W E ρ rest k out) : VB X W E ρ (st :: rest) (m.bind fun _ => k) out :=
  (pss_cons h hr).wk fun De σ H ⟨H0, F0, F, kk, x, q⟩ => ⟨H0, F, kk, ((hds_bind q).hd σ kk.same).imp fun a q v H1 F1 fp s1 x1 f1 w n => ⟨H0, F0, F1, kk.grow s1 x1 f1, x.trans kk.same x1, q⟩⟩
/-- name op= e of ints -/
theorem vb_aug {f : Int → Int → Int} {m : R Int} {k : Int → R β} {a : Int} (h : PS X st (tAug i (tE X.K W E X.N.length ρ .frz m) (ipI f))) (ha : ρ i = .vl .fz (en a)) (hr : ∀ z, VB X W E (se ρ i (.vl .fz (en z))) rest (k z) out) (hi : Nat.blt i X.N.length = true := by rfl) : VB X W E ρ (st :: rest) (m.bind fun y => k (f a y)) out :=
  (pss_cons h (pss_any hr)).wk fun De σ H ⟨H0, F0, F, kk, x, q⟩ => by
    obtain ⟨fp, o1, _⟩ := kk.sl
    obtain ⟨v, h1, _, h2⟩ := o1 i _ _ ha
    refine ⟨v, h1, H0, F, kk, ((hds_bind q).hd σ kk.same).imp fun y q u H1 F1 fp s1 x1 f1 w _ => ⟨a, y, int_rp h2, int_rp w.toRp.2, f a y, H0, F0, F1, (kk.grow s1 x1 f1).set (Nat.le_of_ble_eq_true hi) (.int _), x.trans kk.same x1, q⟩⟩

/-! ### return, raise -/
theorem vb_ret {inj : α → β} (h : PS X st (tRet (tE X.K W E X.N.length ρ s m))) (ho : ∀ a, out (inj a) = .rt s (en a) none := by intro _; rfl) : VB X W E ρ [st] (m.map inj) out := (pss_one h).wk fun De σ H ⟨H0, F0, F, kk, x, q⟩ =>
  ⟨H0, F, kk, ((hds_map q).hd σ kk.same).imp fun a q v H1 F1 fp s1 x1 f1 w n => by
    rw [ho] at q
    exact q v H1 F1 fp (kk.same.trans s1) (x.trans kk.same x1) f1 w fun a ha => ⟨none_back kk.same (n a ha).1, (n a ha).2⟩⟩
/-- return of what a slot owns -/
theorem vb_retO {a : α} {r : Option V} (h : PS X st (tRet (tVar i))) (hi : ρ i = .vl (.ow s r) (en a)) (ho : out b = .rt s (en a) none) : VB X W E ρ [st] (.ok b) out := (pss_one h).wk fun De σ H ⟨H0, F0, F, kk, x, q⟩ => by
  have q : SPost X.K W X.N.length H0 F0 De (out b) := q
  rw [ho] at q
  obtain ⟨v, fp, o⟩ := kk.own hi
  exact ⟨v, o.at_, q v H F fp kk.same x kk.sub o.ow fun a ha => ⟨(o.fre a ha).2, (o.fre a ha).1⟩⟩
/-- return from a def that changes what it was handed -/
theorem vb_retI {δ : Type} [En δ] {inj : α → β} {u : V} {s2 : Sh} {z : δ} (j : Nat) (h : PS X st (tRet (tE X.K W E X.N.length ρ s m))) (hj : ρ j = .vl (.ow s2 (some u)) (en z)) (ho : ∀ a, out (inj a) = .rt s (en a) (some (u, s2, en z)) := by intro _; rfl) : VB X W E ρ [st] (m.map inj) out := (pss_one h).wk fun De σ H ⟨H0, F0, F, kk, x, q⟩ =>
  ⟨H0, F, kk, ((hds_map q).hd σ kk.same).imp fun a q v H1 F1 fp s1 x1 f1 w n => by
    rw [ho] at q
    obtain ⟨v2, fq, o⟩ := (kk.grow s1 x1 f1).own hj
    have e := o.rt u rfl
    subst e
    obtain ⟨v3, fq3, o3⟩ := kk.own hj
    have k1 := kk.grow s1 x1 f1
    have o3w := o3.ow.mono x1.up fun a ha => by
      obtain ⟨w', e⟩ := o3.ow.live a ha
      exact (s1 a w' e).trans e.symm
    have e3 : v3 = v2 := o3.rt v2 rfl
    subst e3
    refine q v H1 F1 fp fq3 (kk.same.trans s1) (x.trans kk.same x1) f1 w o3w (fun a ha => ⟨none_back kk.same (n a ha).1, (n a ha).2⟩) (fun a ha => ⟨(o3.fre a ha).2, ?_⟩) fun a ha hb => ?_
    · obtain ⟨w', e⟩ := o3.ow.live a ha
      exact x1.out e (o3.fre a ha).1
    · obtain ⟨w', e⟩ := o3.ow.live a hb
      rw [(n a ha).1] at e; cases e⟩
theorem vb_raise {n : Nat} (h : PS X st (fun _ σ H => E σ (.ref (W.ea n)) none H)) : VB X W E ρ [st] (.ex n) out := (pss_one h).wk fun De σ H ⟨H0, F0, F, kk, x, q⟩ => q σ H kk.same

/-! ### if -/
theorem vb_if {x y : List Stmt} {mx my : R β} (hc : VT X W E ρ c t) (ha : VB X W E ρ x mx out) (hb : VB X W E ρ y my out) : VB X W E ρ [.If c x y pos] (iteR t mx my) out := (pss_one (ps_if hc ha hb)).wk fun De σ H ⟨H0, F0, F, kk, x, q⟩ =>
  ⟨H0, F, kk, ((hds_bind q).hd σ kk.same).imp fun z q H1 s1 => by
    cases z with
    | true => exact ⟨H0, F0, F, kk.heap s1, x, q⟩
    | false => exact ⟨H0, F0, F, kk.heap s1, x, q⟩⟩
/-- the first branch does not go on -/
theorem vb_ifA {x : List Stmt} {mx my : R β} (hc : VT X W E ρ c t) (ha : VB X W E ρ x mx fun b => dn (out b)) (hr : VB X W E ρ rest my out) : VB X W E ρ (.If c x [] pos :: rest) (iteR t mx my) out := (pss_cons (ps_if hc ha pss_nil) hr).wk fun De σ H ⟨H0, F0, F, kk, x, q⟩ =>
  ⟨H0, F, kk, ((hds_bind q).hd σ kk.same).imp fun z q H1 s1 => by
    cases z with
    | true => exact ⟨H0, F0, F, kk.heap s1, x, HdS.imp (r := mx) q fun b p => p.dn⟩
    | false => exact ⟨H0, F0, F, kk.heap s1, x, q⟩⟩
/-- .. and the second goes on to a state -/
theorem vb_ifAE {x y : List Stmt} {mx : R β} {my : R S} {eJ : S → Env} {k : S → R β} (hc : VT X W E ρ c t) (ha : VB X W E ρ x mx fun b => dn (out b)) (hb : VB X W E ρ y my fun s => .nx (eJ s)) (hr : ∀ s, VB X W E (eJ s) rest (k s) out) : VB X W E ρ (.If c x y pos :: rest) (iteR t mx (my.bind k)) out := (pss_cons (ps_if hc ha hb) (pss_any hr)).wk fun De σ H ⟨H0, F0, F, kk, x, q⟩ =>
  ⟨H0, F, kk, ((hds_bind q).hd σ kk.same).imp fun z q H1 s1 => by
    cases z with
    | true => exact ⟨H0, F0, F, kk.heap s1, x, HdS.imp (r := mx) q fun b p => p.dn⟩
    | false => exact ⟨H0, F0, F, kk.heap s1, x, (hds_bind q).imp fun s p σ' H' F' k' x' => ⟨s, H0, F0, F', k', x', p⟩⟩⟩
/-- the second branch does not go on -/
theorem vb_ifB {x y : List Stmt} {mx : R S} {my : R β} {eJ : S → Env} {k : S → R β} (hc : VT X W E ρ c t) (ha : VB X W E ρ x mx fun s => .nx (eJ s)) (hb : VB X W E ρ y my fun b => dn (out b)) (hr : ∀ s, VB X W E (eJ s) rest (k s) out) : VB X W E ρ (.If c x y pos :: rest) (iteR t (mx.bind k) my) out := (pss_cons (ps_if hc ha hb) (pss_any hr)).wk fun De σ H ⟨H0, F0, F, kk, x, q⟩ =>
  ⟨H0, F, kk, ((hds_bind q).hd σ kk.same).imp fun z q H1 s1 => by
    cases z with
    | true => exact ⟨H0, F0, F, kk.heap s1, x, (hds_bind q).imp fun s p σ' H' F' k' x' => ⟨s, H0, F0, F', k', x', p⟩⟩
    | false => exact ⟨H0, F0, F, kk.heap s1, x, HdS.imp (r := my) q fun b p => p.dn⟩⟩
/-- both go on -/
theorem vb_ifJ {x y : List Stmt} {mx my : R S} {eJ : S → Env} {k : S → R β} (hc : VT X W E ρ c t) (ha : VB X W E ρ x mx fun s => .nx (eJ s)) (hb : VB X W E ρ y my fun s => .nx (eJ s)) (hr : ∀ s, VB X W E (eJ s) rest (k s) out) : VB X W E ρ (.If c x y pos :: rest) ((iteR t mx my).bind k) out := (pss_cons (ps_if hc ha hb) (pss_any hr)).wk fun De σ H ⟨H0, F0, F, kk, x, q⟩ =>
  ⟨H0, F, kk, ((hds_bind (hds_bind q)).hd σ kk.same).imp fun z q H1 s1 => by
    cases z with
    | true => exact ⟨H0, F0, F, kk.heap s1, x, HdS.imp (r := mx) q fun s p σ' H' F' k' x' => ⟨s, H0, F0, F', k', x', p⟩⟩
    | false => exact ⟨H0, F0, F, kk.heap s1, x, HdS.imp (r := my) q fun s p σ' H' F' k' x' => ⟨s, H0, F0, F', k', x', p⟩⟩⟩
/-- each may go on or not -/
def ifOut (eJ : S → Env) (out : β → Out) : Sum S β → Out
  | .inl s => .nx (eJ s)
  | .inr b => dn (out b)
theorem vb_ifS {x y : List Stmt} {mx my : R (Sum S β)} {eJ : S → Env} {k : S → R β} (hc : VT X W E ρ c t) (ha : VB X W E ρ x mx (ifOut eJ out)) (hb : VB X W E ρ y my (ifOut eJ out)) (hr : ∀ s, VB X W E (eJ s) rest (k s) out) : VB X W E ρ (.If c x y pos :: rest) (thenR (iteR t mx my) k) out := (pss_cons (ps_if hc ha hb) (pss_any hr)).wk fun De σ H ⟨H0, F0, F, kk, x, q⟩ => by
  have fin : ∀ z : Sum S β, HdS E W H0 (thenK k z) (fun b => SPost X.K W X.N.length H0 F0 De (out b)) → SPost X.K W X.N.length H0 F0 { De with nx := fun σ H => ∃ s, tB X.K W E X.N.length (eJ s) (k s) out De σ H } (ifOut eJ out z) := fun z p => by
    cases z with
    | inl s => exact fun σ' H' F' k' x' => ⟨s, H0, F0, F', k', x', p⟩
    | inr b => exact SPost.dn (show SPost X.K W X.N.length H0 F0 De (out b) from p)
  exact ⟨H0, F, kk, ((hds_bind (hds_bind q)).hd σ kk.same).imp fun z q H1 s1 => by
    cases z with
    | true => exact ⟨H0, F0, F, kk.heap s1, x, HdS.imp (r := mx) q fin⟩
    | false => exact ⟨H0, F0, F, kk.heap s1, x, HdS.imp (r := my) q fin⟩⟩
end
end Tx

set_option Elab.async false
set_option linter.all false
set_option maxRecDepth 100000
set_option maxHeartbeats 4000000
/-! A10: loops; a slot lent to a statement. -/
namespace Tx
open PySem L2 En EnL

def lcOut {S β : Type} (e : S → Env) (out : β → Out) : Lc S β → Out
  | .nx s => .nc (e s)
  | .bk s => .bk (e s)
  | .rt b => rtO (out b)
section
variable {X : Cx} {W : Vp} {E : L2.St → XK} {ρ : Env} {rest body : List Stmt} {tg iter c : Expr} {pos : Pos}
variable {α β S : Type} [En α] {mi : R (List α)} {k : S → R β} {out : β → Out} {e : S → Env} {s0 : S} {g : GF} {ρx : α → S → Env}
theorem vb_for {f : α → S → R S} (hp : PassesOwn (model X.prog X.w) X.A X.env X.xe) (hc : X.calm = true) (hi : VI X W E ρ true tg iter mi) (hg : VG X W (fun _ => true) tg g) (hl : Le (e s0) ρ)
    (hb : ∀ x s, VB X W E (ρx x s) body (f x s) fun s' => .nc (e s')) (hr : ∀ s, VB X W E (e s) rest (k s) out) (hx : ∀ x s, g (en x) (e s) = some (ρx x s) := by intro _ _; rfl) (hs : ∀ z, foldedSetIterable iter X.env z = pure z := by intro _; rfl) :
    VB X W E ρ (.For tg iter body [] pos :: rest) (mi.bind fun xs => (forR f xs s0).bind k) out :=
  (pss_cons (ps_for hp hc hi hg (pss_any fun p : α × S => hb p.1 p.2) hs) (pss_any hr)).wk fun De σ H ⟨H0, F0, F, kk, x, q⟩ => by
  refine ⟨H0, F, kk, ((hds_bind q).hd σ kk.same).imp fun xs q J H2 F2 G Y s2 x2 f2 _ wk _ hG hY => ?_⟩
  have k2 := kk.grow s2 x2 f2
  refine for_it (g := tG X.K W X.N.length (fun _ => true) g) (tb := fun D σ H => ∃ p : α × S, tB X.K W E X.N.length (ρx p.1 p.2) (f p.1 p.2) (fun s' => .nc (e s')) D σ H) (D := { De with nx := fun σ H => ∃ s, tB X.K W E X.N.length (e s) (k s) out De σ H }) wk (fun n σ' H' => ∃ F' s', EnvS X.K W.rc H0 F' H' X.N.length σ' (e s') ∧ Ext F2 H0 F' ∧ HdS E W H0 ((forR f (xs.drop n) s').bind k) fun b => SPost X.K W X.N.length H0 F0 De (out b)) ⟨F2, s0, k2.le hl, Ext.refl F2 H0, q⟩ ?_ ?_ ?_
  · rintro n σ' H' hn ⟨F', s', k', x', _⟩
    exact hG rfl H' (x'.up.trans k'.sub) k'.same
  · rintro n v σ' H3 H4 hn ⟨F', s', k', x', q'⟩ hy
    obtain ⟨d, F3, q1, q2, q3, q4, q5⟩ := hY n H3 v H4 F' (by rw [List.length_map]; exact hn) hy x'.up k'.sub
    obtain ⟨y, hy', hd⟩ : ∃ y, xs[n]? = some y ∧ d = en y := by
      rw [List.getElem?_map] at q1
      cases z : xs[n]? with
      | none => rw [z] at q1; cases q1
      | some y => rw [z] at q1; cases q1; exact ⟨y, rfl, rfl⟩
    subst hd
    have dd : xs.drop n = y :: xs.drop (n + 1) := by
      obtain ⟨hlt, rfl⟩ := List.getElem?_eq_some_iff.mp hy'
      exact List.drop_eq_getElem_cons hlt
    rw [dd] at q'
    have q' : HdS E W H0 (((f y s').bind fun s2 => forR f (xs.drop (n + 1)) s2).bind k) _ := q'
    rw [R.bind_assoc] at q'
    have x3 : Ext F2 H0 F3 := x'.trans k'.same q3
    refine ⟨H0, F3, e s', en y, ρx y s', k'.grow q2 q3 q4, q5, hx y s', fun σ1 k1 _ => ⟨(y, s'), H0, F2, F3, k1, x3, (hds_bind q').imp fun s2 q7 => ?_⟩⟩
    exact fun σ2 H5 F4 k4 x4 => ⟨⟨F4, s2, k4, x4, q7⟩, ⟨F4, s2, k4, x4, q7⟩⟩
  · rintro σ' H' ⟨F', s', k', x', q'⟩
    rw [List.drop_length] at q'
    exact ⟨s', H0, F0, F', k', (x.trans kk.same x2).two x', q'⟩
theorem vb_loop {f : α → S → R (Lc S β)} (hp : PassesOwn (model X.prog X.w) X.A X.env X.xe) (hc : X.calm = true) (hi : VI X W E ρ true tg iter mi) (hg : VG X W (fun _ => true) tg g) (hl : Le (e s0) ρ)
    (hb : ∀ x s, VB X W E (ρx x s) body (f x s) (lcOut e out)) (hr : ∀ s, VB X W E (e s) rest (k s) out) (hx : ∀ x s, g (en x) (e s) = some (ρx x s) := by intro _ _; rfl) (hs : ∀ z, foldedSetIterable iter X.env z = pure z := by intro _; rfl) :
    VB X W E ρ (.For tg iter body [] pos :: rest) (mi.bind fun xs => thenR (loopR f xs s0) k) out :=
  (pss_cons (ps_for hp hc hi hg (pss_any fun p : α × S => hb p.1 p.2) hs) (pss_any hr)).wk fun De σ H ⟨H0, F0, F, kk, x, q⟩ => by
  refine ⟨H0, F, kk, ((hds_bind q).hd σ kk.same).imp fun xs q J H2 F2 G Y s2 x2 f2 _ wk _ hG hY => ?_⟩
  have k2 := kk.grow s2 x2 f2
  have xx : Ext F0 H0 F2 := x.trans kk.same x2
  refine for_it (g := tG X.K W X.N.length (fun _ => true) g) (tb := fun D σ H => ∃ p : α × S, tB X.K W E X.N.length (ρx p.1 p.2) (f p.1 p.2) (lcOut e out) D σ H) (D := { De with nx := fun σ H => ∃ s, tB X.K W E X.N.length (e s) (k s) out De σ H }) wk (fun n σ' H' => ∃ F' s', EnvS X.K W.rc H0 F' H' X.N.length σ' (e s') ∧ Ext F2 H0 F' ∧ HdS E W H0 ((loopR f (xs.drop n) s').bind (thenK k)) fun b => SPost X.K W X.N.length H0 F0 De (out b)) ⟨F2, s0, k2.le hl, Ext.refl F2 H0, q⟩ ?_ ?_ ?_
  · rintro n σ' H' hn ⟨F', s', k', x', _⟩
    exact hG rfl H' (x'.up.trans k'.sub) k'.same
  · rintro n v σ' H3 H4 hn ⟨F', s', k', x', q'⟩ hy
    obtain ⟨d, F3, q1, q2, q3, q4, q5⟩ := hY n H3 v H4 F' (by rw [List.length_map]; exact hn) hy x'.up k'.sub
    obtain ⟨y, hy', hd⟩ : ∃ y, xs[n]? = some y ∧ d = en y := by
      rw [List.getElem?_map] at q1
      cases z : xs[n]? with
      | none => rw [z] at q1; cases q1
      | some y => rw [z] at q1; cases q1; exact ⟨y, rfl, rfl⟩
    subst hd
    have dd : xs.drop n = y :: xs.drop (n + 1) := by
      obtain ⟨hlt, rfl⟩ := List.getElem?_eq_some_iff.mp hy'
      exact List.drop_eq_getElem_cons hlt
    rw [dd] at q'
    have q' : HdS E W H0 (((f y s').bind (lcGo (loopR f (xs.drop (n + 1))))).bind (thenK k)) _ := q'
    rw [R.bind_assoc] at q'
    have x3 : Ext F2 H0 F3 := x'.trans k'.same q3
    refine ⟨H0, F3, e s', en y, ρx y s', k'.grow q2 q3 q4, q5, hx y s', fun σ1 k1 _ => ⟨(y, s'), H0, F2, F3, k1, x3, (hds_bind q').imp fun r q7 => ?_⟩⟩
    cases r with
    | nx s2 => exact fun σ2 H5 F4 k4 x4 => ⟨⟨F4, s2, k4, x4, q7⟩, ⟨F4, s2, k4, x4, q7⟩⟩
    | bk s2 => exact fun σ2 H5 F4 k4 x4 => ⟨s2, H0, F0, F4, k4, xx.two x4, q7⟩
    | rt b =>
      have q7 : SPost X.K W X.N.length H0 F0 De (out b) := q7
      show SPost X.K W X.N.length H0 F2 _ (rtO (out b))
      exact SPost.rtO (De := De) (q7.base xx)
  · rintro σ' H' ⟨F', s', k', x', q'⟩
    rw [List.drop_length] at q'
    exact ⟨s', H0, F0, F', k', xx.two x', q'⟩
omit [En α] in
theorem vb_while {t : S → R Bool} {f : S → R S} (hp : PassesOwn (model X.prog X.w) X.A X.env X.xe) (hl : Le (e s0) ρ) (hc : ∀ s, VT X W E (e s) c (t s))
    (hb : ∀ s, VB X W E (e s) body (f s) fun s' => .nc (e s')) (hr : ∀ s, VB X W E (e s) rest (k s) out) : VB X W E ρ (.While c body [] pos :: rest) ((whileR t f s0).bind k) out :=
  (pss_cons (ps_while hp (pt_any hc) (pss_any hb)) (pss_any hr)).wk fun De σ H ⟨H0, F0, F, kk, x, q⟩ => by
  obtain ⟨n, hn⟩ := whileR_some t f s0
  rw [hn] at q
  refine ⟨fun j σ' H' => ∃ F' s', EnvS X.K W.rc H0 F' H' X.N.length σ' (e s') ∧ Ext F0 H0 F' ∧ HdS E W H0 ((whileN t f j s').bind k) fun b => SPost X.K W X.N.length H0 F0 De (out b), ⟨n, F, s0, kk.le hl, x, q⟩, ?_⟩
  rintro j σ' H' ⟨F', s', k', x', q'⟩
  cases j with
  | zero => exact False.elim q'
  | succ j =>
    unfold whileN at q'
    rw [R.bind_assoc] at q'
    refine ⟨s', H0, F', k', ((hds_bind q').hd σ' k'.same).imp fun d q H2 s2 => ?_⟩
    cases d with
    | false => exact ⟨s', H0, F0, F', k'.heap s2, x', q⟩
    | true =>
      have q : HdS E W H0 (((f s').bind fun s2 => whileN t f j s2).bind k) _ := q
      rw [R.bind_assoc] at q
      refine ⟨fun σ2 H3 => ∃ F2 s2, EnvS X.K W.rc H0 F2 H3 X.N.length σ2 (e s2) ∧ Ext F0 H0 F2 ∧ HdS E W H0 ((whileN t f j s2).bind k) fun b => SPost X.K W X.N.length H0 F0 De (out b), fun σ2 H3 z => ⟨j, Nat.lt_succ_self j, z⟩, s', H0, F0, F', k'.heap s2, x', (hds_bind q).imp fun s3 q7 => ?_⟩
      exact fun σ2 H5 F4 k4 x4 => ⟨⟨F4, s3, k4, x4, q7⟩, ⟨F4, s3, k4, x4, q7⟩⟩
omit [En α] in
theorem vb_wloop {t : S → R Bool} {f : S → R (Lc S β)} (hp : PassesOwn (model X.prog X.w) X.A X.env X.xe) (hl : Le (e s0) ρ) (hc : ∀ s, VT X W E (e s) c (t s))
    (hb : ∀ s, VB X W E (e s) body (f s) (lcOut e out)) (hr : ∀ s, VB X W E (e s) rest (k s) out) : VB X W E ρ (.While c body [] pos :: rest) (thenR (wloopR t f s0) k) out :=
  (pss_cons (ps_while hp (pt_any hc) (pss_any hb)) (pss_any hr)).wk fun De σ H ⟨H0, F0, F, kk, x, q⟩ => by
  obtain ⟨n, hn⟩ := wloopR_some t f s0
  have q : HdS E W H0 ((wloopR t f s0).bind (thenK k)) _ := q
  rw [hn] at q
  refine ⟨fun j σ' H' => ∃ F' s', EnvS X.K W.rc H0 F' H' X.N.length σ' (e s') ∧ Ext F0 H0 F' ∧ HdS E W H0 ((wloopN t f j s').bind (thenK k)) fun b => SPost X.K W X.N.length H0 F0 De (out b), ⟨n, F, s0, kk.le hl, x, q⟩, ?_⟩
  rintro j σ' H' ⟨F', s', k', x', q'⟩
  cases j with
  | zero => exact False.elim q'
  | succ j =>
    unfold wloopN at q'
    rw [R.bind_assoc] at q'
    refine ⟨s', H0, F', k', ((hds_bind q').hd σ' k'.same).imp fun d q H2 s2 => ?_⟩
    cases d with
    | false => exact ⟨s', H0, F0, F', k'.heap s2, x', q⟩
    | true =>
      have q : HdS E W H0 (((f s').bind (lcGo (wloopN t f j))).bind (thenK k)) _ := q
      rw [R.bind_assoc] at q
      refine ⟨fun σ2 H3 => ∃ F2 s2, EnvS X.K W.rc H0 F2 H3 X.N.length σ2 (e s2) ∧ Ext F0 H0 F2 ∧ HdS E W H0 ((wloopN t f j s2).bind (thenK k)) fun b => SPost X.K W X.N.length H0 F0 De (out b), fun σ2 H3 z => ⟨j, Nat.lt_succ_self j, z⟩, s', H0, F0, F', k'.heap s2, x', (hds_bind q).imp fun r q7 => ?_⟩
      cases r with
      | nx s3 => exact fun σ2 H5 F4 k4 x4 => ⟨⟨F4, s3, k4, x4, q7⟩, ⟨F4, s3, k4, x4, q7⟩⟩
      | bk s3 => exact fun σ2 H5 F4 k4 x4 => ⟨s3, H0, F0, F4, k4, x4, q7⟩
      | rt b =>
        have q7 : SPost X.K W X.N.length H0 F0 De (out b) := q7
        show SPost X.K W X.N.length H0 F0 _ (rtO (out b))
        exact SPost.rtO (De := De) q7
theorem pi_any {X : Cx} {tg e : Expr} {α : Type} {t : α → TI} (h : ∀ x, PI X tg e (t x)) : PI X tg e (fun σ H R => ∃ x, t x σ H R) := ⟨fun pins s σ H R I ⟨x, q⟩ => (h x).run pins s σ H R I q⟩
/-- a for while which the slot i is lent -/
theorem vb_forL {f : α → S → R S} {ei : V → S → Env} {ρy : V → α → S → Env} {ρ2 : S → Env} {s : Sh} {r : Option V} {d : D} (i : Nat) (hi : ρ i = .vl (.ow s r) d) (hp : PassesOwn (model X.prog X.w) X.A X.env X.xe) (hc : X.calm = true) (hit : ∀ v, VI X W E (se ρ i (.vl (.bw s (some v)) d)) true tg iter mi) (hg : VG X W (fun _ => true) tg g)
    (hl : ∀ v, Le (ei v s0) (se ρ i (.vl (.bw s (some v)) d))) (hb : ∀ v x s, VB X W E (ρy v x s) body (f x s) fun s' => .nc (ei v s')) (hr : ∀ s, VB X W E (ρ2 s) rest (k s) out) (hk : ∀ v s', Back i ρ (ei v s') (ρ2 s'))
    (hx : ∀ v x s, g (en x) (ei v s) = some (ρy v x s) := by intro _ _ _; rfl) (h1 : ∀ v s', ei v s' i = .vl (.bw s (some v)) d := by intro _ _; rfl) (h2 : ∀ s', ρ2 s' i = .vl (.ow s r) d := by intro _; rfl) (hs : ∀ z, foldedSetIterable iter X.env z = pure z := by intro _; rfl) :
    VB X W E ρ (.For tg iter body [] pos :: rest) (mi.bind fun xs => (forR f xs s0).bind k) out :=
  (pss_cons (ps_for hp hc (pi_any hit) hg (pss_any fun p : V × α × S => hb p.1 p.2.1 p.2.2) hs) (pss_any hr)).wk fun De σ H ⟨H0, F0, F, kk, x, q⟩ => by
  obtain ⟨v0, Hb, _, s01, kb, back⟩ := kk.lend hi
  refine ⟨v0, Hb, F, kb, ((hds_bind q).hd σ kk.same).imp fun xs q J H2 F2 G Y s2 x2 f2 _ wk _ hG hY => ?_⟩
  have k2 := kb.grow s2 x2 f2
  have xb : Ext F Hb F2 := Ext.at kb.same x2
  refine for_it (g := tG X.K W X.N.length (fun _ => true) g) (tb := fun D σ H => ∃ p : V × α × S, tB X.K W E X.N.length (ρy p.1 p.2.1 p.2.2) (f p.2.1 p.2.2) (fun s' => .nc (ei p.1 s')) D σ H) (D := { De with nx := fun σ H => ∃ s, tB X.K W E X.N.length (ρ2 s) (k s) out De σ H })
    wk (fun n σ' H' => ∃ F' s', EnvS X.K W.rc Hb F' H' X.N.length σ' (ei v0 s') ∧ Ext F2 Hb F' ∧ HdS E W H0 ((forR f (xs.drop n) s').bind k) fun b => SPost X.K W X.N.length H0 F0 De (out b)) ⟨F2, s0, k2.le (hl v0), Ext.refl F2 Hb, q⟩ ?_ ?_ ?_
  · rintro n σ' H' hn ⟨F', s', k', x', _⟩
    exact hG rfl H' (x'.up.trans k'.sub) k'.same
  · rintro n v σ' H3 H4 hn ⟨F', s', k', x', q'⟩ hy
    obtain ⟨d, F3, q1, q2, q3, q4, q5⟩ := hY n H3 v H4 F' (by rw [List.length_map]; exact hn) hy x'.up k'.sub
    obtain ⟨y, hy', hd⟩ : ∃ y, xs[n]? = some y ∧ d = en y := by
      rw [List.getElem?_map] at q1
      cases z : xs[n]? with
      | none => rw [z] at q1; cases q1
      | some y => rw [z] at q1; cases q1; exact ⟨y, rfl, rfl⟩
    subst hd
    have dd : xs.drop n = y :: xs.drop (n + 1) := by
      obtain ⟨hlt, rfl⟩ := List.getElem?_eq_some_iff.mp hy'
      exact List.drop_eq_getElem_cons hlt
    rw [dd] at q'
    have q' : HdS E W H0 (((f y s').bind fun s2 => forR f (xs.drop (n + 1)) s2).bind k) _ := q'
    rw [R.bind_assoc] at q'
    have x3 : Ext F2 Hb F3 := x'.trans k'.same q3
    refine ⟨Hb, F3, ei v0 s', en y, ρy v0 y s', k'.grow q2 q3 q4, q5, hx v0 y s', fun σ1 k1 _ => ⟨(v0, y, s'), Hb, F2, F3, k1, x3, ((hds_bind q').up s01).imp fun s2 q7 => ?_⟩⟩
    exact fun σ2 H5 F4 k4 x4 => ⟨⟨F4, s2, k4, x4, q7⟩, ⟨F4, s2, k4, x4, q7⟩⟩
  · rintro σ' H' ⟨F', s', k', x', q'⟩
    rw [List.drop_length] at q'
    obtain ⟨k3, x3⟩ := back F' H' σ' (ei v0 s') (ρ2 s') k' (xb.two x') (h1 v0 s') (h2 s') (hk v0 s')
    exact ⟨s', H0, F0, F', k3, x.two x3, q'⟩
end
theorem Back.e0 {i : Nat} {ρ ρ' : Env} : Back i ρ ρ' e0 := fun _ _ => .inl rfl
theorem Back.fz {i j : Nat} {ρ ρ' ρ2 : Env} {d : D} (h : Back i ρ ρ' ρ2) (e : ρ' j = .vl .fz d) : Back i ρ ρ' (se ρ2 j (.vl .fz d)) := fun n hn => by
  by_cases q : n = j
  · subst q; rw [se_same]; exact .inr (.inl ⟨e.symm, fun s r d z => by rw [e] at z; cases z⟩)
  · rw [se_ne _ _ q]; exact h n hn
theorem Back.ow {i j : Nat} {ρ ρ' ρ2 : Env} {s : Sh} {r : Option V} {d : D} (h : Back i ρ ρ' ρ2) (e : ρ' j = .vl (.ow s r) d) : Back i ρ ρ' (se ρ2 j (.vl (.ow s r) d)) := fun n hn => by
  by_cases q : n = j
  · subst q; rw [se_same]; exact .inr (.inl ⟨e.symm, fun s r d z => by rw [e] at z; cases z⟩)
  · rw [se_ne _ _ q]; exact h n hn
theorem Back.bw {i j : Nat} {ρ ρ' ρ2 : Env} {s : Sh} {v : V} {d : D} (h : Back i ρ ρ' ρ2) (e0 : ρ j = .vl (.bw s (some v)) d) (e : ρ' j = .vl (.bw s (some v)) d) : Back i ρ ρ' (se ρ2 j (.vl (.bw s (some v)) d)) := fun n hn => by
  by_cases q : n = j
  · subst q; rw [se_same]; exact .inr (.inr ⟨s, v, d, rfl, e0, e⟩)
  · rw [se_ne _ _ q]; exact h n hn
/-- the slot itself -/
theorem Back.self {i : Nat} {ρ ρ' ρ2 : Env} {x : Sl} (h : Back i ρ ρ' ρ2) : Back i ρ ρ' (se ρ2 i x) := fun n hn => by
  rw [se_ne _ _ hn]; exact h n hn
end Tx

set_option Elab.async false
set_option linter.all false
set_option maxRecDepth 100000
set_option maxHeartbeats 4000000
/-! A11: defs by their bodies, calls, the law's end. -/
namespace Tx
open PySem L2 PyProof.Rows En EnL

/-- room for k calls, and no guard is up -/
structure Rm (k : Nat) (A : Around) : Prop where
  room : Room k A
  gds : A.guards = some []
theorem Rm.mono {j k : Nat} {A : Around} (r : Rm k A) (h : j ≤ k) : Rm j A := ⟨r.room.mono h, r.gds⟩
/-- a def keeps its promise wherever no guard is up -/
structure FnG (P : Program) (w : World) (K : PySem.W.Frag) (mg : Str → Option Value) (base : Heap) (k : Nat) (f : Addr) (fd : FuncData) (ps : List Str) (sp : Sp) : Prop where
  len : ∀ vs H Q E, sp vs H Q E → vs.length = ps.length
  run : ∀ (A : Around) (outer : List PySem.Env) (s : Shared) (H : Hp) (args : Args) (us : List Value) (vs : List V) (Q : VK) (E : XK), Rm k A → Env0 P w K mg base A outer s H → BindsTo s fd args (ps.zip us) → Vals vs us → sp vs H Q E →
    codeAny (model P w) A (.call (.ref f) args) (CR (L2.CX P w) outer P w H s Q E) s
theorem FnG.mono {P : Program} {w : World} {K : PySem.W.Frag} {mg : Str → Option Value} {base : Heap} {j k : Nat} {f : Addr} {fd : FuncData} {ps : List Str} {sp : Sp} (F : FnG P w K mg base j f fd ps sp) (h : j ≤ k) : FnG P w K mg base k f fd ps sp :=
  ⟨F.len, fun A outer s H args us vs Q E hr => F.run A outer s H args us vs Q E (hr.mono h)⟩
theorem FnG.of {P : Program} {w : World} {K : PySem.W.Frag} {mg : Str → Option Value} {base : Heap} {k : Nat} {f : Addr} {fd : FuncData} {ps : List Str} {sp : Sp} (F : FnOk P w K mg base (L2.CX P w) k f fd ps sp) : FnG P w K mg base k f fd ps sp :=
  ⟨F.len, fun A outer s H args us vs Q E hr => F.run A outer s H args us vs Q E hr.room⟩

/-- a def of the text keeps its promise, by its body's reading -/
theorem fnG_of {P : Program} {w : World} {K : PySem.W.Frag} {mg : Str → Option Value} {base : Heap} {k : Nat} {f : Addr} {fd : FuncData} {x qual : Str} {st : Stmt} {N ps : List Str} {sp : Sp} (F : Fun K x qual st f fd) (S : FnScope N ps (defScope st)) (len : ∀ vs H Q E, sp vs H Q E → vs.length = ps.length)
    (hbody : ∀ (cdv : Value) (A : Around) (outer : List PySem.Env) (s : Shared) (H : Hp) (vs : List V) (Q : VK) (E : XK), Rm k (A.deeper (envOfC qual (defScope st) s.heap.objs.size f cdv)) → sp vs H Q E →
      ∃ t, PSs (cxOf (L2.CX P w) P w K mg base N qual (defScope st) f cdv A outer s H E) (defBody st) t ∧ t { nx := fun _ H' => Q .non H', rt := Q } (L2.start N vs) H) : FnG P w K mg base (k + 1) f fd ps sp := by
  obtain ⟨oc, od, kV, doc, pm, an, cdv, ct, osl, rfl, lk, hcd⟩ := F.ex
  refine ⟨len, fun A outer s H args us vs Q E hr e0 hb r hsp => ?_⟩
  have hl : vs.length = ps.length := len _ _ _ _ hsp
  have inK : K.In s.heap := e0.mod.kin.keeps fun b o z => (e0.bs b o z).1
  have limit : s.heap.NoLimit := e0.mod.nolimit.keeps fun b o z => (e0.bs b o z).1
  have params : ∀ y ∈ ps.zip us, (defScope st).names.lookup y.1 = some .local ∨ ((defScope st).names.lookup y.1 = some .cell ∧ ((cellsFrom (s.heap.objs.size + 1) (defScope st).names []).lookup y.1).isSome = true) := by
    rintro ⟨n, v⟩ hy
    cases S.par n (List.of_mem_zip hy).1 with
    | inl q => exact .inl q
    | inr q => exact .inr ⟨q, PySem.W.cellsFrom_some _ _ _ (.inl q)⟩
  have code := PySem.W.codeRec_of inK hcd
  refine codeAny_call_function hr.room.depth (inK _ _ lk) rfl S.co S.gen rfl code (hb _ _ _ _ ?_)
  refine wpAny_newFunctionEnv_cells S.kind params fun env he s1 xx => ?_
  subst he
  refine ⟨limit.keeps xx.toInCall.keep, codeAny_func ?_⟩
  obtain ⟨t, ht, hq⟩ := hbody cdv A outer s H vs Q E ⟨hr.room.deeper _, hr.gds⟩ hsp
  have I := inv_start (CX := L2.CX P w) (P := P) (w := w) (mg := mg) (base := base) (E := E) (outer := outer) (A := A) S hr.room.hd e0 hl r xx
  refine wpAny_mono (ht.run [] s1 (L2.start N vs) H _ I hq) (fun fl s' hs => ?_) fun e s' hs => hs
  cases fl with
  | next =>
    obtain ⟨σ', H', J, q⟩ := hs
    exact ⟨V.non, H', J.os, J.bare, J.base, J.hok, rfl, q⟩
  | ret u =>
    obtain ⟨v, σ', H', J, rv, q⟩ := hs
    exact ⟨v, H', J.os, J.bare, J.base, J.hok, rv, q⟩
  | brk =>
    obtain ⟨_, _, _, q⟩ := hs
    cases q
  | cont =>
    obtain ⟨_, _, _, q⟩ := hs
    cases q

/-! ### calls -/
section
variable {X : Cx} {k : Nat} {f C : Addr} {fd : FuncData} {ps : List Str} {sp : Sp} {E : L2.St → XK} {x : Str} {p pos : Pos} {e : Expr} {es : List Expr} {t : TA}
theorem run_fnG {pins : List (Addr × Obj)} {σ : L2.St} {H : Hp} {s : Shared} {Q : VK} {us : List Value} {vs : List V} (F : FnG X.prog X.w X.K X.mg X.base k f fd ps sp) (hr : Rm k X.A) (hb : Binds X.K fd ps []) (hx : PassesAt (L2.CX X.prog X.w) X σ (E σ))
    (I : Inv X pins σ H s) (r : Vals vs us) (h : sp vs H Q (E σ)) : wpAny (model X.prog X.w) X.A (call (.ref f) us) (EP X pins σ Q) X.xe s := by
  have lens : us.length = ps.length := r.length.symm.trans (F.len vs H Q (E σ) h)
  have bd := hb s us I.kIn ((congrArg List.length (List.append_nil us)).trans lens)
  rw [List.append_nil] at bd
  have run := F.run X.A X.stack s H ⟨us, []⟩ us vs Q (E σ) hr I.env0 bd r h
  refine wpAny_call (codeAny_mono run fun res s' z => ?_)
  rcases res with e | fl
  · exact hx pins H s e s' I z
  · rcases fl with u | _ | _ | _
    all_goals first | exact I.after z | exact z.elim
theorem pe_callG (F : FnG X.prog X.w X.K X.mg X.base k f fd ps sp) (hr : Rm k X.A) (hg : Gl X x) (hm : X.mg x = some (.ref f)) (hk : PySem.W.keepIn X.K (.ref f) = true) (hb : Binds X.K fd ps []) (hx : ∀ σ, PassesAt (L2.CX X.prog X.w) X σ (E σ))
    (ha : PA X (e :: es) t) (hdb : (x == ("__debug__" : Str)) = false := by decide) (he : starEach (e :: es) X.env = (false, eval e X.env) :: starEach es X.env := by rfl) (hpl : (backTo pos (starEach es X.env)).any (·.1) = false := by rfl) :
    PE X (.Call (.Name x p) (e :: es) [] pos) (tCallS sp E t) := ⟨fun pins s σ H Q I h =>
  wpAny_Call_Name_kw (ld_glob I hg hm (PySem.W.callWith_K (h₀ := X.base) I.ok.mod.kin hk (thn (ha.run pos pins s σ H _ I h) fun us s1 q => by
    obtain ⟨vs, H1, I1, r, q⟩ := q
    exact ⟨I1.kIn, run_fnG F hr hb (hx σ) I1 r q⟩) he hpl) hdb)⟩
end


section
variable {X : Cx} {E : L2.St → XK}
theorem pass_off (hN : X.xe = fun _ _ => False) : ∀ σ, PassesAt (L2.CX X.prog X.w) X σ (EN σ) := fun σ pins H s e s' I h => by
  obtain ⟨_, _, _, _, _, _, _, _, _, _, _, _, z⟩ := h
  exact z.elim
theorem pass_any : ∀ σ, PassesAt (L2.CX X.prog X.w) X σ (EN σ) := fun σ pins H s e s' I h => by
  obtain ⟨_, _, _, _, _, _, _, _, _, _, _, _, z⟩ := h
  exact z.elim
theorem pass_fn {E' : XK} (tk : Takes X (fun cls d _ H => E' cls d H)) : ∀ σ, PassesAt (L2.CX X.prog X.w) X σ ((fun _ => E') σ) := fun σ => passAt tk σ
end
/-- the promise: from data to data; the result is new to the extent s -/
def spT {A β : Type} [EnL A] [En β] (K : PySem.W.Frag) (W : Vp) (f : A → R β) (s : Sh) : Sp := fun vs H Q E => ∃ F a, Same F H ∧ RpA K W.rc F vs (enl a) ∧ Hd E W H (f a) fun b => Post K W F H s Q (en b)
/-- .. of a def that changes one of its arguments -/
def spI {A B β δ ε : Type} [EnL A] [EnL B] [En β] [En δ] [En ε] (K : PySem.W.Frag) (W : Vp) (s1 : Sh) (f : A → δ → B → R (β × ε)) (s s2 : Sh) : Sp := fun vs H Q E => ∃ F ws u us x z y fq, vs = ws ++ u :: us ∧ Same F H ∧ Ow K W.rc F H s1 u (en z) fq ∧ (∀ a ∈ fq, F a = none) ∧ RpA K W.rc F ws (enl x) ∧ RpA K W.rc F us (enl y) ∧
  Hd E W (hid H fq) (f x z y) fun b => ∀ v H' F' fp fr, Same (hid H fq) H' → Ext F (hid H fq) F' → Same F' H' → Ow K W.rc F' H' s v (en b.1) fp → Ow K W.rc F' H' s2 u (en b.2) fr → (∀ a ∈ fp, hid H fq a = none ∧ F' a = none) → (∀ a ∈ fr, hid H fq a = none ∧ F' a = none) → (∀ a ∈ fp, a ∉ fr) → Q v H'
/-- the slots at a def's start -/
def argE : Nat → List D → Env
  | _, [] => e0
  | i, d :: ds => se (argE (i + 1) ds) i (.vl .fz d)
theorem argE_get : ∀ (ds : List D) (k i : Nat) (m : Md) (d : D), argE k ds i = .vl m d → k ≤ i ∧ m = .fz ∧ ds[i - k]? = some d
  | [], _, _, _, _, h => by cases h
  | x :: ds, k, i, m, d, h => by
    unfold argE at h
    by_cases q : i = k
    · subst q
      rw [se_same] at h
      cases h
      exact ⟨Nat.le_refl _, rfl, by simp⟩
    · rw [se_ne _ _ q] at h
      obtain ⟨h1, h2, h3⟩ := argE_get ds (k + 1) i m d h
      refine ⟨by omega, h2, ?_⟩
      rw [show i - k = (i - (k + 1)) + 1 by omega]
      simpa using h3
theorem start_get {N : List Str} {vs : List V} {i : Nat} {v : V} (h : vs[i]? = some v) : (L2.start N vs)[i]? = some (some v) := by
  unfold L2.start
  have hl := (List.getElem?_eq_some_iff.mp h).1
  rw [List.getElem?_append_left (by simpa using hl), List.getElem?_map, h]
  rfl
theorem start_len {N : List Str} {vs : List V} (h : vs.length ≤ N.length) : (L2.start N vs).length = N.length := by
  unfold L2.start
  simp
  omega
section
variable {K : PySem.W.Frag} {W : Vp} {A β : Type} [EnL A] [En β]
theorem start_env {N : List Str} {F H : Hp} {vs : List V} {a : A} (s : Same F H) (r : RpA K W.rc F vs (enl a)) (hl : vs.length ≤ N.length) : EnvS K W.rc H F H N.length (L2.start N vs) (argE 0 (enl a)) := by
  refine ⟨Same.refl H, s, start_len hl, fun _ => [], fun i m d e => ?_, fun i j s r d t q e n h1 h2 => ?_⟩
  · obtain ⟨_, h2, h3⟩ := argE_get _ _ _ _ _ e
    subst h2
    obtain ⟨v, q1, q2⟩ := r.get h3
    exact ⟨v, start_get (by simpa using q1), rfl, q2⟩
  · cases (argE_get _ _ _ _ _ h1).2.1
/-- how a def's end is told -/
def rtOut (s : Sh) : β → Out := fun b => .rt s (en b) none
/-- a def without return -/
def nxOut : Unit → Out := fun _ => .nx e0
theorem body_rt {E : XK} {N : List Str} {vs : List V} {H : Hp} {Q : VK} {f : A → R β} {s : Sh} (hl : vs.length ≤ N.length) (h : spT K W f s vs H Q E) : ∃ a : A, tB K W (fun _ => E) N.length (argE 0 (enl a)) (f a) (rtOut s) { nx := fun _ H' => Q .non H', rt := Q } (L2.start N vs) H := by
  obtain ⟨F, a, s1, r, m⟩ := h
  refine ⟨a, H, F, F, start_env s1 r hl, Ext.refl F H, ?_⟩
  cases hf : f a with
  | ok b =>
    rw [hf] at m
    exact fun v H' F' fp a b c d e => okH m v H' F' fp a b c d e
  | ex c => rw [hf] at m; exact fun _ H' z => m H' z
  | no => rw [hf] at m; exact m
theorem body_nx {E : XK} {N : List Str} {vs : List V} {H : Hp} {Q : VK} {f : A → R Unit} {s : Sh} (hl : vs.length ≤ N.length) (h : spT K W f s vs H Q E) : ∃ a : A, tB K W (fun _ => E) N.length (argE 0 (enl a)) (f a) nxOut { nx := fun _ H' => Q .non H', rt := Q } (L2.start N vs) H := by
  obtain ⟨F, a, s1, r, m⟩ := h
  refine ⟨a, H, F, F, start_env s1 r hl, Ext.refl F H, ?_⟩
  cases hf : f a with
  | ok b =>
    rw [hf] at m
    exact fun σ' H' F' k x => okH m .non H' F' [] k.same x k.sub (.sc rfl .non) fun a ha => nomatch ha
  | ex c => rw [hf] at m; exact fun _ H' z => m H' z
  | no => rw [hf] at m; exact m
end

/-- the def called nm is there, and hands back f of its arguments -/
structure Cal {A β : Type} [EnL A] [En β] (P : Program) (w : World) (K : PySem.W.Frag) (mg : Str → Option Value) (base : Heap) (W : Vp) (nm : Str) (k : Nat) (f : A → R β) (s : Sh) : Prop where
  ex : ∃ (fa : Addr) (fd : FuncData) (ps : List Str), mg nm = some (.ref fa) ∧ PySem.W.keepIn K (.ref fa) = true ∧ Binds K fd ps [] ∧ FnG P w K mg base k fa fd ps (spT K W f s)
/-- a def of the text, under the module's name nm -/
structure Dn (K : PySem.W.Frag) (mg : Str → Option Value) (nm x : Str) (st : Stmt) (ps : List Str) : Prop where
  ex : ∃ (f : Addr) (fd : FuncData), mg nm = some (.ref f) ∧ Fun K x x st f fd ∧ Binds K fd ps []

section
variable {P : Program} {w : World} {K : PySem.W.Frag} {mg : Str → Option Value} {base : Heap} {W : Vp} {A β : Type} [EnL A] [En β]
/-- how the arguments of a def bind -/
theorem dn_mk {nm x : Str} {st : Stmt} {ps : List Str} {f : Addr} {oc : Value} {od an : Option Addr} {osl : Array (Option Value)} {kV doc pm cdv ct : Value} (a : mg nm = some (.ref f))
    (l : K.lookup f = some ⟨oc, od, .func (PySem.W.fnOf x x (defArgs st) (defBody st) (defScope st) .none kV doc pm an cdv ct), osl⟩) (c : PySem.W.codeIn K cdv x = true) (k : PySem.W.keepIn K (.ref f) = true)
    (hb : ∀ (kV doc pm : Value) (an : Option Addr) (cdv ct : Value) (us : List Value), us.length = ps.length → bindArgs (PySem.W.fnOf x x (defArgs st) (defBody st) (defScope st) .none kV doc pm an cdv ct) ⟨us, []⟩ = pure (ps.zip us)) : Dn K mg nm x st ps :=
  ⟨f, _, a, fun_mk l c k, (fun_mk l c k).binds hb⟩

theorem fn_rt {nm : Str} {st : Stmt} {N ps : List Str} {k : Nat} {f : A → R β} {s : Sh} {fa : Addr} {fd : FuncData} (F : Fun K nm nm st fa fd) (S : FnScope N ps (defScope st))
    (hb : ∀ (cdv : Value) (Ar : Around) (outer : List PySem.Env) (sh : Shared) (H : Hp) (E : XK), Rm k (Ar.deeper (envOfC nm (defScope st) sh.heap.objs.size fa cdv)) → ∀ a : A, VB (cxOf (L2.CX P w) P w K mg base N nm (defScope st) fa cdv Ar outer sh H E) W (fun _ => E) (argE 0 (enl a)) (defBody st) (f a) (rtOut s))
    (hn : ∀ a : A, (enl a).length = ps.length := by intro _; rfl) (hl : Nat.ble ps.length N.length = true := by rfl) : FnG P w K mg base (k + 1) fa fd ps (spT K W f s) :=
  fnG_of F S (fun vs H Q E ⟨_, a, _, r, _⟩ => by rw [r.len, hn]) fun cdv Ar outer sh H vs Q E hr h => by
    have l : vs.length ≤ N.length := by
      obtain ⟨_, a, _, r, _⟩ := h
      rw [r.len, hn]
      exact Nat.le_of_ble_eq_true hl
    obtain ⟨a, q⟩ := body_rt (N := N) l h
    exact ⟨_, hb cdv Ar outer sh H E hr a, q⟩
theorem fn_nx {nm : Str} {st : Stmt} {N ps : List Str} {k : Nat} {f : A → R Unit} {fa : Addr} {fd : FuncData} (F : Fun K nm nm st fa fd) (S : FnScope N ps (defScope st))
    (hb : ∀ (cdv : Value) (Ar : Around) (outer : List PySem.Env) (sh : Shared) (H : Hp) (E : XK), Rm k (Ar.deeper (envOfC nm (defScope st) sh.heap.objs.size fa cdv)) → ∀ a : A, VB (cxOf (L2.CX P w) P w K mg base N nm (defScope st) fa cdv Ar outer sh H E) W (fun _ => E) (argE 0 (enl a)) (defBody st) (f a) nxOut)
    (hn : ∀ a : A, (enl a).length = ps.length := by intro _; rfl) (hl : Nat.ble ps.length N.length = true := by rfl) : FnG P w K mg base (k + 1) fa fd ps (spT K W f .frz) :=
  fnG_of F S (fun vs H Q E ⟨_, a, _, r, _⟩ => by rw [r.len, hn]) fun cdv Ar outer sh H vs Q E hr h => by
    have l : vs.length ≤ N.length := by
      obtain ⟨_, a, _, r, _⟩ := h
      rw [r.len, hn]
      exact Nat.le_of_ble_eq_true hl
    obtain ⟨a, q⟩ := body_nx (N := N) l h
    exact ⟨_, hb cdv Ar outer sh H E hr a, q⟩
/-- THE RULE for a def, as its callers see it -/
theorem cal {nm : Str} {st : Stmt} {N ps : List Str} {k : Nat} {f : A → R β} {s : Sh} (d : Dn K mg nm nm st ps) (S : FnScope N ps (defScope st))
    (hb : ∀ (fa : Addr) (cdv : Value) (Ar : Around) (outer : List PySem.Env) (sh : Shared) (H : Hp) (E : XK), Rm k (Ar.deeper (envOfC nm (defScope st) sh.heap.objs.size fa cdv)) → ∀ a : A, VB (cxOf (L2.CX P w) P w K mg base N nm (defScope st) fa cdv Ar outer sh H E) W (fun _ => E) (argE 0 (enl a)) (defBody st) (f a) (rtOut s))
    (hn : ∀ a : A, (enl a).length = ps.length := by intro _; rfl) (hl : Nat.ble ps.length N.length = true := by rfl) : Cal P w K mg base W nm (k + 1) f s := by
  obtain ⟨fa, fd, a, F, c⟩ := d.ex
  exact ⟨fa, fd, ps, a, F.kp, c, fn_rt F S (hb fa) hn hl⟩
theorem calN {nm : Str} {st : Stmt} {N ps : List Str} {k : Nat} {f : A → R Unit} (d : Dn K mg nm nm st ps) (S : FnScope N ps (defScope st))
    (hb : ∀ (fa : Addr) (cdv : Value) (Ar : Around) (outer : List PySem.Env) (sh : Shared) (H : Hp) (E : XK), Rm k (Ar.deeper (envOfC nm (defScope st) sh.heap.objs.size fa cdv)) → ∀ a : A, VB (cxOf (L2.CX P w) P w K mg base N nm (defScope st) fa cdv Ar outer sh H E) W (fun _ => E) (argE 0 (enl a)) (defBody st) (f a) nxOut)
    (hn : ∀ a : A, (enl a).length = ps.length := by intro _; rfl) (hl : Nat.ble ps.length N.length = true := by rfl) : Cal P w K mg base W nm (k + 1) f .frz := by
  obtain ⟨fa, fd, a, F, c⟩ := d.ex
  exact ⟨fa, fd, ps, a, F.kp, c, fn_nx F S (hb fa) hn hl⟩
end
section
variable {X : Cx} {W : Vp} {E : L2.St → XK} {ρ : Env} {s : Sh} {A β : Type} [EnL A] [En β] {f : A → R β} {m : R A} {k j : Nat} {nm : Str} {p pos : Pos} {e : Expr} {es : List Expr}
theorem ve_call (c : Cal X.prog X.w X.K X.mg X.base W nm j f s) (hr : Rm k X.A) (hx : ∀ σ, PassesAt (L2.CX X.prog X.w) X σ (E σ)) (ha : VA X W E ρ .frz (e :: es) m) (hj : j ≤ k := by decide) (hg : Gl X nm := by rfl)
    (hdb : (nm == ("__debug__" : Str)) = false := by decide) (he : starEach (e :: es) X.env = (false, eval e X.env) :: starEach es X.env := by rfl) (hpl : (backTo pos (starEach es X.env)).any (·.1) = false := by rfl) :
    VE X W E ρ s (.Call (.Name nm p) (e :: es) [] pos) (m.bind f) := by
  obtain ⟨fa, fd, ps, a, b, d, q⟩ := c.ex
  exact (pe_callG q (hr.mono hj) hg a b d hx ha hdb he hpl).wk fun σ H Q ⟨H0, F, k, q⟩ => ⟨H0, F, k, (hd_bind q).imp fun a m1 vs H1 F1 fp s1 x1 f1 w1 _ => ⟨F1, a, f1, w1.toRp.2, (m1.heap s1).imp fun d q => q.step s1 x1⟩⟩
end

/-! ### the law's end -/
theorem caller_gds : callerA.guards = some [] := rfl
/-- what is asked of the law's def: from the script's ints, True -/
def spLaw (K : PySem.W.Frag) : Sp := fun vs H Q _ => ∃ (a : Addr) (ns : List Int), vs = [.ref a] ∧ SqR K H a (ns.map V.int) ∧ ns.length ≤ 63 ∧ ∀ H', Q (.bl true) H'
section
variable {P : Program} {w : World} {K : PySem.W.Frag} {mg mb : Str → Option Value} {k : Nat} {fa a : Addr} {fd : FuncData} {x : Str} {sp : Sp} {s₁ : Shared} {vs : List Value} {ns : List Int}
theorem law_callH (KX : K.In s₁.heap) (hns : s₁.heap.Ns mainGlobals mg) (hb : s₁.heap.Ns builtinsNs mb) (hbb : ∀ x : Str, x ≠ "__name__" → mb x = bootBuiltins x) (hlim : s₁.heap.NoLimit) (hg : s₁.gens = #[])
    (ha : s₁.heap.get? a = some { cls := .type "list", data := .seq vs.toArray }) (hr : Room k callerA)
    (F : ∀ base : Heap, K.In base → base.Ns mainGlobals mg → FnG P w K mg base k fa fd [x] sp) (hbind : ∀ (s : Shared) (u : Value), BindsTo s fd ⟨[u], []⟩ [(x, u)])
    (H : Hp) (hsp : sp [.ref a] H (fun v _ => v = .bl true) fun _ _ _ => False) (hok : HOk P w H s₁.heap) (at0 : ∀ b, b ≠ a → H b = none) (nK : H a = none ∨ K.lookup a = none ∧ ∃ u, H a = some (.frz { cls := .type "list", data := .seq vs.toArray } u)) :
    codeAny (model P w) callerA (.call (.ref fa) ⟨[.ref a], []⟩) (fun r s' => r = .ok (.ret (.bool true)) ∧ OldK s₁.heap s'.heap ∧ s'.os = s₁.os ∧ AllBare s'.gens) s₁ := by
  have under : ∀ {b : Addr} {o : Obj}, s₁.heap.get? b = some o → H b = none → (hidT s₁.heap H).get? b = some o := fun e n => hidT_get e n
  have dict : ∀ {b : Addr} {m : Str → Option Value}, s₁.heap.Ns b m → (hidT s₁.heap H).Ns b m := fun {b m} z => by
    obtain ⟨o, es, ep, e, d, r⟩ := z
    refine ⟨o, es, ep, under e (at0 b fun y => ?_), d, r⟩
    subst y
    rw [ha] at e; cases e
    cases d
  have kin : K.In (hidT s₁.heap H) := fun b o e => under (KX b o e) (by
    by_cases y : b = a
    · subst y
      rcases nK with z | ⟨z, _⟩
      · exact z
      · rw [z] at e; cases e
    · exact at0 b y)
  have md : Mod K mg (hidT s₁.heap H) := ⟨kin, dict hns, ⟨mb, dict hb, hbb⟩, by
    obtain ⟨mc, h1, h2⟩ := hlim
    exact ⟨mc, dict h1, h2⟩⟩
  have none0 : ∀ b : Addr, b ∉ ([] : List Addr) := fun b z => by cases z
  have env0 : Env0 P w K mg (hidT s₁.heap H) callerA [] s₁ H := ⟨rfl, md, fun b o e => of_hidT e, Nat.le_of_eq (hidT_size _ _), trivial, fun b z => (none0 b z).elim, hok, AllBare.of_eq hg⟩
  have run := (F _ kin (dict hns)).run callerA [] s₁ H ⟨[.ref a], []⟩ [.ref a] [.ref a] _ _ ⟨hr, caller_gds⟩ env0 (hbind s₁ (.ref a)) (.cons rfl .nil) hsp
  refine codeAny_mono run fun r s' z => ?_
  rcases r with e | fl
  · obtain ⟨_, _, _, _, _, _, _, _, _, _, _, _, q⟩ := z
    exact q.elim
  · rcases fl with _ | _ | _ | u
    all_goals first | exact z.elim | skip
    obtain ⟨v, H', os, bare, un, hok', r', q⟩ := z
    have q' : v = .bl true := q
    subst q'
    cases r'
    refine ⟨rfl, OldK.of_keep fun b o e => ?_, os, bare⟩
    by_cases y : H b = none
    · exact un.keep b o e y (none0 b) (none0 b)
    · have e1 : b = a := Classical.byContradiction fun z => y (at0 b z)
      subst e1
      rcases nK with z | ⟨_, u, z⟩
      · exact (y z).elim
      · obtain ⟨e2, _⟩ := hok' b _ (un.frzs b _ _ z)
        rw [ha] at e; cases e
        exact e2
theorem law_callG (KX : K.In s₁.heap) (hns : s₁.heap.Ns mainGlobals mg) (hb : s₁.heap.Ns builtinsNs mb) (hbb : ∀ x : Str, x ≠ "__name__" → mb x = bootBuiltins x) (hlim : s₁.heap.NoLimit) (hg : s₁.gens = #[])
    (ha : s₁.heap.get? a = some { cls := .type "list", data := .seq vs.toArray }) (hi : IntsAre vs ns) (hl : ns.length ≤ sizeLine) (hr : Room k callerA)
    (F : ∀ base : Heap, K.In base → base.Ns mainGlobals mg → FnG P w K mg base k fa fd [x] sp) (hbind : ∀ (s : Shared) (u : Value), BindsTo s fd ⟨[u], []⟩ [(x, u)])
    (hsp : ∀ H : Hp, SqR K H a (ns.map V.int) → sp [.ref a] H (fun v _ => v = .bl true) fun _ _ _ => False) :
    codeAny (model P w) callerA (.call (.ref fa) ⟨[.ref a], []⟩) (fun r s' => r = .ok (.ret (.bool true)) ∧ OldK s₁.heap s'.heap ∧ s'.os = s₁.os ∧ AllBare s'.gens) s₁ := by
  have vals := vals_ints hi
  have lens := hi.length
  cases hk : K.lookup a with
  | some o =>
    have e := KX a o hk
    rw [ha] at e
    cases e
    exact law_callH KX hns hb hbb hlim hg ha hr F hbind (fun _ => none) (hsp _ (.inr ⟨vs.toArray, _, hk, by rw [List.size_toArray, lens]; exact hl, by simpa using vals⟩)) (fun b u z => by cases z) (fun b _ => rfl) (.inl rfl)
  | none =>
    have at1 : (if a = a then some (HO.frz { cls := .type "list", data := .seq vs.toArray } (.lst (ns.map V.int))) else none) = some (HO.frz { cls := .type "list", data := .seq vs.toArray } (.lst (ns.map V.int))) := if_pos rfl
    refine law_callH KX hns hb hbb hlim hg ha hr F hbind (fun b => if b = a then some (.frz { cls := .type "list", data := .seq vs.toArray } (.lst (ns.map V.int))) else none) (hsp _ (.inl (.inr ⟨_, at1⟩))) (fun b u z => ?_) (fun b z => if_neg z) (.inr ⟨hk, _, at1⟩)
    by_cases y : b = a
    · subst y
      have z' := at1.symm.trans z
      cases z'
      exact ⟨ha, by rw [List.length_map]; exact hl, vs, _, vals, ha⟩
    · have z' := (if_neg y).symm.trans z
      cases z'
end
theorem walkG {l : PySem.W.OpenLaw} {k : Nat} {q : Program} {loose : List Str} {XP : (Str → Option Value) → Heap → Prop} {YP : World → Heap → Prop} {d : DefRec} {K : Params → PySem.W.Frag} {sp : PySem.W.Frag → Sp} {x : Str}
    (hn : l.most = some 63) (hdf : d.params.defaults = []) (hr : Room k callerA) (hY : ∀ (w : World) (h : Heap), YP w h → (K w.params).In h)
    (F : ∀ (w : World) (mg : Str → Option Value) (fa : Addr) (h : Heap), (K w.params).In h → h.Ns mainGlobals mg → mg d.name = some (.ref fa) →
      ∃ fd : FuncData, (∀ (s : Shared) (u : Value), BindsTo s fd ⟨[u], []⟩ [(x, u)]) ∧ ∀ base : Heap, (K w.params).In base → base.Ns mainGlobals mg → FnG l.prog w (K w.params) mg base k fa fd [x] (sp (K w.params)))
    (hsp : ∀ (K : PySem.W.Frag) (H : Hp) (a : Addr) (ns : List Int), ns.length ≤ 63 → SqR K H a (ns.map V.int) → sp K [.ref a] H (fun v _ => v = .bl true) fun _ _ _ => False) :
    PySem.W.WalkO q loose XP YP l.row.toRowW d [] (fun f vs => PySem.call f vs) := by
  refine Att.attach_call hn hdf fun w s₀ s₁ mg mb fa o pm cd doc a vs ns G Y ho hd hcd hmg hobj hints hlen hg => ?_
  have KX := hY w _ Y
  obtain ⟨fd, hb, hF⟩ := F w mg fa _ KX G.T.g hmg
  exact law_callG KX G.T.g G.T.b G.T.builtins G.T.nolimit hg hobj hints (Nat.le_trans hlen (by decide)) hr hF hb fun H hS => hsp _ H a ns hlen hS

/-- the law's def by its data: it is enough that the function says True of every script -/
theorem law_end {P : Program} {w : World} {K : PySem.W.Frag} {mg : Str → Option Value} {base : Heap} {W : Vp} {k : Nat} {fa : Addr} {fd : FuncData} {ps : List Str} {f : List Int → R Bool} {s : Sh} (F : FnG P w K mg base k fa fd ps (spT K W (fun a : List Int × Unit => f a.1) s))
    (t : ∀ ns : List Int, ns.length ≤ 63 → f ns = .ok true) : FnG P w K mg base k fa fd ps (spLaw K) := by
  have z : ∀ vs H Q E, spLaw K vs H Q E → spT K W (fun a : List Int × Unit => f a.1) s vs H Q E := fun vs H Q E ⟨a, ns, e, hs, hl, q⟩ => by
    subst e
    refine ⟨H, (ns, ()), Same.refl H, .cons (.lst hs RpA.ints) .nil, ?_⟩
    show Hd E W H (f ns) _
    rw [t ns hl]
    exact fun v H' F' fp _ _ _ w _ => by
      have r : v = .bl true := by
        cases w with
        | sc _ r => cases r; rfl
        | fz r => cases r; rfl
      rw [r]; exact q H'
  exact ⟨fun vs H Q E q => F.len vs H Q E (z _ _ _ _ q), fun A outer s H args us vs Q E hr he hb hv hs => F.run A outer s H args us vs Q E hr he hb hv (z _ _ _ _ hs)⟩
/-- an int of the module -/
theorem ve_k {X : Cx} {W : Vp} {E : L2.St → XK} {ρ : Env} {nm : Str} {n : Int} {pos : Pos} (h : ∃ t, X.mg nm = some (.int n t)) (hg : Gl X nm := by rfl) (hd : (nm == ("__debug__" : Str)) = false := by decide) : VE X W E ρ .frz (.Name nm pos) (.ok n) := by
  obtain ⟨t, h⟩ := h
  exact ve_c (v := .int n) (pe_glob hg h ⟨t, rfl⟩ hd) fun _ _ _ => .int n
/-- an own exception class over ValueError (by way of LightError, or without) -/
structure ExF (K : PySem.W.Frag) (mg : Str → Option Value) (nm : Str) (C : Addr) : Prop where
  g : mg nm = some (.ref C)
  x : PySem.W.excIn K C [.type "ValueError", .type "Exception", .type "BaseException", .type "object"] "ValueError.__new__" = true
  k : PySem.W.keepIn K (.ref C) = true
  b : PySem.W.subIn K (.ref C) (.type "BaseException") = some true
  t : PySem.W.typeIn K (.ref C) = some (.type "type")
end Tx

set_option Elab.async false
set_option linter.all false
set_option maxRecDepth 100000
set_option maxHeartbeats 4000000
/-! A12: a part of what a slot owns is changed. -/
namespace Tx
open PySem L2 En EnL

/-- the part c at v', of what stands for a at v; put: another part in its place -/
def Foc {α γ : Type} [En α] [En γ] (K : PySem.W.Frag) (C : Rc) (F H : Hp) (s : Sh) (v : V) (fp : List Addr) (s' : Sh) (v' : V) (c : γ) (fa : List Addr) (put : γ → α) : Prop :=
  Ow K C F H s' v' (en c) fa ∧ ∃ fb : List Addr, (∀ a, a ∈ fp ↔ a ∈ fa ∨ a ∈ fb) ∧ (∀ a ∈ fa, a ∉ fb) ∧
    ∀ (F' H' : Hp) (z : γ) (fq : List Addr), Same F F' → (∀ a ∈ fb, H' a = H a) → Ow K C F' H' s' v' (en z) fq → (∀ a ∈ fq, a ∉ fb) → ∃ fr : List Addr, (∀ a, a ∈ fr ↔ a ∈ fq ∨ a ∈ fb) ∧ Ow K C F' H' s v (en (put z)) fr
/-- the reading of a place within what slot i owns -/
def tP {α γ : Type} [En α] [En γ] (K : PySem.W.Frag) (W : Vp) (E : L2.St → XK) (L : Nat) (ρ : Env) (i : Nat) (s : Sh) (r : Option V) (a : α) (s' : Sh) (m : R (γ × (γ → α))) : TE := fun σ H Q => ∃ H0 F, EnvS K W.rc H0 F H L σ ρ ∧
  ∃ v fp, Own K W.rc H0 F H L σ ρ i s r (en a) v fp ∧ Hd (E σ) W H m fun p => ∀ v' fa H1 F1, Same H H1 → Ext F H F1 → Same F1 H1 → Foc K W.rc F1 H1 s v fp s' v' p.1 fa p.2 → Q v' H1
abbrev VP {α γ : Type} [En α] [En γ] (X : Cx) (W : Vp) (E : L2.St → XK) (ρ : Env) (i : Nat) (s : Sh) (r : Option V) (a : α) (s' : Sh) (e : Expr) (m : R (γ × (γ → α))) : Prop := PE X e (tP X.K W E X.N.length ρ i s r a s' m)
section
variable {α γ δ : Type} [En α] [En γ] [En δ] {K : PySem.W.Frag} {C : Rc} {F F1 H H1 H0 : Hp} {s s' : Sh} {v v' : V} {a : α} {c : γ} {fp fa : List Addr} {put : γ → α} {L : Nat} {σ : L2.St} {ρ : Env} {i : Nat} {r : Option V}
theorem Foc.refl (h : Ow K C F H s v (en a) fp) : Foc K C F H s v fp s v a fp (fun z : α => z) := ⟨h, [], by simp, by simp, fun F' H' z fq f g w n => ⟨fq, by simp, w⟩⟩
theorem Foc.grow (h : Foc K C F H s v fp s' v' c fa put) (o : Ow K C F H s v (en a) fp) (x : Same F F1) (sm : Same H H1) : Foc K C F1 H1 s v fp s' v' c fa put := by
  obtain ⟨w, fb, h1, h2, h3⟩ := h
  have keep : ∀ b ∈ fp, H1 b = H b := fun b hb => by
    obtain ⟨u, e⟩ := o.live b hb
    exact (sm b u e).trans e.symm
  exact ⟨w.mono x fun b hb => keep b ((h1 b).mpr (.inl hb)), fb, h1, h2, fun F' H' z fq f g w n => h3 F' H' z fq (x.trans f) (fun b hb => (g b hb).trans (keep b ((h1 b).mpr (.inr hb)))) w n⟩
/-- what an owning slot holds, in a heap that has grown -/
theorem Own.grow (o : Own K C H0 F H L σ ρ i s r (en a) v fp) (sm : Same H H1) (x : Ext F H F1) : Ow K C F1 H1 s v (en a) fp ∧ ∀ b ∈ fp, F1 b = none ∧ H1 b = H b :=
  ⟨o.ow.mono x.up fun b hb => by
    obtain ⟨u, e⟩ := o.ow.live b hb
    exact (sm b u e).trans e.symm, fun b hb => by
    obtain ⟨u, e⟩ := o.ow.live b hb
    exact ⟨x.out e (o.fre b hb).1, (sm b u e).trans e.symm⟩⟩
theorem Own.up {d : D} (o : Own K C H0 F H L σ ρ i s r d v fp) (sm : Same H H1) (x : Ext F H F1) (sb : Same F1 H1) : Own K C H0 F1 H1 L σ ρ i s r d v fp :=
  ⟨o.at_, o.rt, o.ow.mono x.up fun b hb => by
    obtain ⟨u, e⟩ := o.ow.live b hb
    exact (sm b u e).trans e.symm, fun b hb => by
    obtain ⟨u, e⟩ := o.ow.live b hb
    exact ⟨x.out e (o.fre b hb).1, (o.fre b hb).2⟩, fun F2 H2 F' H' s' d' fp' s1 x1 sb1 => o.put F2 H2 F' H' s' d' fp' (sm.trans s1) (x.trans sm x1) sb1, o.out.grow sm x sb⟩
/-- the part at the address p is another object now -/
theorem Own.mut {p : Addr} {ho : HO} {fq : List Addr} {H2 F2 : Hp} {z : γ} (o : Own K C H0 F H L σ ρ i s r (en a) v fp) (s1 : Same H H1) (x1 : Ext F H F1) (sb1 : Same F1 H1) (f : Foc K C F1 H1 s v fp s' (.ref p) c (p :: fa) put)
    (s2 : Same H1 H2) (x2 : Ext F1 H1 F2) (sb2 : Same F2 H2) (w : Ow K C F2 (upd H2 p ho) s' (.ref p) (en z) fq) (k0 : Same F H) (hq : ∀ b ∈ fq, b = p ∨ b ∈ fa ∨ (H b = none ∧ F2 b = none)) : EnvS K C H0 F2 (upd H2 p ho) L σ (se ρ i (.vl (.ow s r) (en (put z)))) := by
  obtain ⟨w0, fb, h1, h2, h3⟩ := f
  obtain ⟨og, on⟩ := o.grow s1 x1
  have s12 := s1.trans s2
  have x12 := x1.trans s1 x2
  have pin : p ∈ fp := (h1 p).mpr (.inl List.mem_cons_self)
  have keep : ∀ b ∈ fb, upd H2 p ho b = H1 b := fun b hb => by
    have ne : b ≠ p := fun e => h2 p List.mem_cons_self (e ▸ hb)
    rw [upd_ne ne]
    obtain ⟨u, e⟩ := og.live b ((h1 b).mpr (.inr hb))
    exact (s2 b u e).trans e.symm
  have q2 : ∀ b ∈ fq, b ∉ fb := fun b hb hc => by
    rcases hq b hb with e | e | e
    · exact h2 p List.mem_cons_self (e ▸ hc)
    · exact h2 b (List.mem_cons_of_mem _ e) hc
    · obtain ⟨u, e'⟩ := o.ow.live b ((h1 b).mpr (.inr hc))
      rw [e'] at e; cases e.1
  obtain ⟨fr, r1, r2⟩ := h3 F2 (upd H2 p ho) z fq x2.up keep w q2
  have nF2 : ∀ b ∈ fp, F2 b = none := fun b hb => (o.grow s12 x12).2 b hb |>.1
  refine o.put F H F2 (upd H2 p ho) s (en (put z)) fr (Same.refl H) (Ext.refl F H) k0 (fun b u e => ?_) (fun b u e => ?_) ⟨x12.up, fun b u e => ?_⟩ r2 fun b hb => ?_
  · by_cases y : b ∈ fp
    · rw [hid_in y] at e; cases e
    · rw [hid_out y] at e
      rw [upd_ne (fun z => y (by rw [z]; exact pin))]
      exact s12 b u e
  · rw [upd_ne (fun z => by rw [z, nF2 p pin] at e; cases e)]
    exact sb2 b u e
  · refine (x12.new b u e).imp id fun n => ?_
    by_cases y : b ∈ fp
    · exact hid_in y
    · rw [hid_out y]; exact n
  · rcases (r1 b).mp hb with h | h
    · rcases hq b h with e | e | e
      · rw [e]; exact ⟨hid_in pin, nF2 p pin⟩
      · have := (h1 b).mpr (.inl (List.mem_cons_of_mem _ e))
        exact ⟨hid_in this, nF2 b this⟩
      · refine ⟨?_, e.2⟩
        by_cases y : b ∈ fp
        · exact hid_in y
        · rw [hid_out y]; exact e.1
    · have := (h1 b).mpr (.inr h)
      exact ⟨hid_in this, nF2 b this⟩
theorem Foc.ix {l : List δ} {put : List δ → α} {s2 : Sh} {k : Nat} {x : δ} (h : Foc K C F H s v fp (.lst s2) v' l fa put) (hk : l[k]? = some x) : ∃ p xs vc fc, v' = .ref p ∧ H p = some (.lst xs) ∧ xs[k]? = some vc ∧ Foc K C F H s v fp s2 vc x fc (fun z => put (l.set k z)) := by
  obtain ⟨w, fb, h1, h2, h3⟩ := h
  have w : Ow K C F H (.lst s2) v' (.list (l.map en)) fa := w
  cases w with
  | sc z _ => cases z
  | lst q1 q2 q3 =>
    rename_i p xs fx
    have e : (l.map en)[k]? = some (en x) := by rw [List.getElem?_map, hk]; rfl
    obtain ⟨vc, fc, fd, y1, y2, y3, y4, y5⟩ := q2.focus e
    refine ⟨p, xs, vc, fc, rfl, q1, y1, y2, p :: fd ++ fb, fun b => ?_, fun b hb hc => ?_, fun F' H' z fq f g w n => ?_⟩
    · simp only [h1, List.mem_append, List.mem_cons, y3]
      constructor
      · rintro ((h | h | h) | h)
        · exact .inr (.inl (.inl h))
        · exact .inl h
        · exact .inr (.inl (.inr h))
        · exact .inr (.inr h)
      · rintro (h | (h | h) | h)
        · exact .inl (.inr (.inl h))
        · exact .inl (.inl h)
        · exact .inl (.inr (.inr h))
        · exact .inr h
    · rcases List.mem_append.mp hc with hc | hc
      · rcases List.mem_cons.mp hc with e | hc
        · exact q3 ((y3 p).mpr (.inl (e ▸ hb)))
        · exact y4 b hb hc
      · exact h2 b (List.mem_cons_of_mem _ ((y3 b).mpr (.inl hb))) hc
    · obtain ⟨fr, r1, r2⟩ := y5 F' H' vc (en z) fq f (fun b hb => g b (List.mem_append.mpr (.inl (List.mem_cons_of_mem _ hb)))) w fun b hb hc => n b hb (List.mem_append.mpr (.inl (List.mem_cons_of_mem _ hc)))
      have e2 : xs.set k vc = xs := by
        apply List.ext_getElem?
        intro j
        by_cases hj : j = k
        · subst hj
          have hl := (List.getElem?_eq_some_iff.mp y1).1
          rw [List.getElem?_set_self hl, y1]
        · rw [List.getElem?_set_ne (Ne.symm hj)]
      rw [e2] at r2
      have e3 : (l.map en).set k (en z) = (l.set k z).map en := by rw [List.map_set]
      rw [e3] at r2
      have np : p ∉ fr := fun hp => by
        rcases (r1 p).mp hp with h | h
        · exact n p h (List.mem_append.mpr (.inl List.mem_cons_self))
        · exact q3 ((y3 p).mpr (.inr h))
      have w2 : Ow K C F' H' (.lst s2) (.ref p) (en (l.set k z)) (p :: fr) := .lst ((g p (List.mem_append.mpr (.inl List.mem_cons_self))).trans q1) r2 np
      obtain ⟨ft, t1, t2⟩ := h3 F' H' (l.set k z) (p :: fr) f (fun b hb => g b (List.mem_append.mpr (.inr hb))) w2 fun b hb hc => by
        rcases List.mem_cons.mp hb with e | hb
        · exact h2 p List.mem_cons_self (e ▸ hc)
        · rcases (r1 b).mp hb with h | h
          · exact n b h (List.mem_append.mpr (.inr hc))
          · exact h2 b (List.mem_cons_of_mem _ ((y3 b).mpr (.inr h))) hc
      refine ⟨ft, fun b => ?_, t2⟩
      simp only [t1, List.mem_append, List.mem_cons, r1]
      constructor
      · rintro ((h | h | h) | h)
        · exact .inr (.inl (.inl h))
        · exact .inl h
        · exact .inr (.inl (.inr h))
        · exact .inr (.inr h)
      · rintro (h | (h | h) | h)
        · exact .inl (.inr (.inl h))
        · exact .inl (.inl h)
        · exact .inl (.inr (.inr h))
        · exact .inr h
end
def ixP {δ : Type} (xs : List δ) (i : Int) : R (δ × (δ → List δ)) :=
  match ixAt xs.length i with
  | some k => (match xs[k]? with
    | some x => .ok (x, fun z => xs.set k z)
    | none => .no)
  | none => .no
section
variable {X : Cx} {W : Vp} {E : L2.St → XK} {ρ : Env} {s s' s2 : Sh} {e b : Expr} {pos : Pos} {i : Nat} {r : Option V} {α γ δ β : Type} [En α] [En γ] [En δ] {a : α} {out : β → Out} {st : Stmt} {rest : List Stmt}
theorem vp_v (h : PE X e (tVar i)) : VP X W E ρ i s r a s e (.ok (a, fun z => z)) := h.wk fun σ H Q ⟨H0, F, k, v, fp, o, q⟩ =>
  ⟨v, o.at_, okH q v fp H F (Same.refl H) (Ext.refl F H) k.sub (Foc.refl o.ow)⟩
theorem vp_ix {m : R (List δ × (List δ → α))} {n : R Int} (ha : VP X W E ρ i s r a (.lst s2) e m) (hb : VE X W E ρ .frz b n) (hs : PlainIx b) :
    VP X W E ρ i s r a s2 (.Subscript e b pos) (m.bind fun p => n.bind fun i => (ixP p.1 i).map fun q => (q.1, fun z => p.2 (q.2 z))) := (pe_ix ix_list ha hb hs).wk fun σ H Q ⟨H0, F, k, v, fp, o, q⟩ => by
  refine ⟨H0, F, k, v, fp, o, (hd_bind q).imp fun p q1 v' fa H1 F1 s1 x1 f1 foc => ?_⟩
  refine ⟨H0, F1, k.grow s1 x1 f1, ((hd_bind q1).heap s1).imp fun j q2 u H2 F2 fq s2' x2 f2 w2 _ => ?_⟩
  have ej : u = .int j := int_rp w2.toRp.2
  have q2 := hd_map q2
  unfold ixP at q2
  cases hk : ixAt p.1.length j with
  | none => rw [hk] at q2; exact q2.elim
  | some kx =>
    rw [hk] at q2
    simp only at q2
    cases hx : p.1[kx]? with
    | none => rw [hx] at q2; exact q2.elim
    | some x =>
      rw [hx] at q2
      obtain ⟨og, _⟩ := o.grow s1 x1
      have foc2 := foc.grow og x2.up s2'
      obtain ⟨pa, xs, vc, fc, e1, e2, e3, foc3⟩ := foc2.ix hx
      have wl : Ow X.K W.rc F2 H2 (.lst s2) v' (.list (p.1.map en)) fa := foc2.1
      have len : xs.length = p.1.length := by
        subst e1
        cases wl with
        | sc z _ => cases z
        | lst z1 z2 _ =>
          rw [e2] at z1; cases z1
          rw [z2.len, List.length_map]
      refine ⟨pa, xs, j, vc, e1, ej, SqL.of e2, ?_, ?_⟩
      · show (ixN xs.length j).bind (fun j => xs[j]?) = some vc
        have : ixN xs.length j = some kx := by rw [len]; exact hk
        rw [this]; exact e3
      · exact okH q2 vc fc H2 F2 (s1.trans s2') (x1.trans s1 x2) f2 foc3
/-! ### xs.append(e), xs[k] = e -/
theorem vb_app {mp : R (List δ × (List δ → α))} {me : R δ} {k : α → R β} (h : PS X st (tDrop (tBM X.K "list" rAppend (tP X.K W E X.N.length ρ i s r a (.lst s2) mp) (tCons (tE X.K W E X.N.length ρ s2 me) tNil)))) (hr : ∀ z : α, VB X W E (se ρ i (.vl (.ow s r) (en z))) rest (k z) out) (hi : ρ i = .vl (.ow s r) (en a) := by rfl) :
    VB X W E ρ (st :: rest) (mp.bind fun p => me.bind fun x => (appR p.1 x).bind fun c => k (p.2 c)) out := (pss_cons h (pss_any hr)).wk fun De σ H ⟨H0, F0, F, kk, x, q⟩ => by
  obtain ⟨v, fp, o⟩ := kk.own hi
  refine ⟨H0, F, kk, v, fp, o, ((hds_bind q).hd σ kk.same).imp fun p q1 v' fa H1 F1 s1 x1 f1 foc => ?_⟩
  have wl : Ow X.K W.rc F1 H1 (.lst s2) v' (.list (p.1.map en)) fa := foc.1
  cases wl with
  | sc z _ => cases z
  | lst z1 z2 z3 =>
    rename_i pa xs fx
    refine ⟨.inl ⟨rfl, xs, SqL.of z1⟩, H0, F1, kk.grow s1 x1 f1, ((hds_bind q1).hd σ (kk.same.trans s1)).imp fun y q2 u H2 F2 fq s2' x2 f2 w2 n2 => ?_⟩
    have l := z2.len
    rw [List.length_map] at l
    have q2 := hds_bind q2
    unfold appR at q2
    by_cases hz : p.1.length < big
    case neg => rw [if_neg hz] at q2; exact q2.elim
    rw [if_pos hz] at q2
    refine ⟨pa, xs, u, rfl, rfl, s2' _ _ z1, Nat.lt_of_lt_of_le (by omega) big_le, p.2 (p.1 ++ [y]), H0, F0, F2, ?_, x.trans kk.same (x1.trans s1 x2), q2⟩
    have keep : ∀ b ∈ fx, upd H2 pa (.lst (xs ++ [u])) b = H1 b := fun b hb => by
      rw [upd_ne (fun e => by rw [e] at hb; exact z3 hb)]
      obtain ⟨w, e⟩ := z2.live b hb
      exact (s2' b w e).trans e.symm
    have nq : ∀ b ∈ fq, b ≠ pa := fun b hb e => by
      have := (n2 b hb).1
      rw [e, z1] at this; cases this
    have w3 : Ow X.K W.rc F2 (upd H2 pa (.lst (xs ++ [u]))) s2 u (en y) fq := w2.mono (Same.refl F2) fun b hb => upd_ne (nq b hb)
    obtain ⟨fr, r1, r2⟩ := OwA.snoc w3 (z2.mono x2.up keep) fun b hb hc => by
      obtain ⟨w, e⟩ := z2.live b hb
      rw [(n2 b hc).1] at e; cases e
    have np : pa ∉ fr := fun hp => by
      rcases (r1 pa).mp hp with h | h
      · exact z3 h
      · exact nq pa h rfl
    refine o.mut (z := p.1 ++ [y]) (fq := pa :: fr) s1 x1 f1 foc s2' x2 f2 (.lst upd_same (by rw [List.map_append]; exact r2) np) kk.sub fun b hb => ?_
    rcases List.mem_cons.mp hb with e | hb
    · exact .inl e
    · rcases (r1 b).mp hb with h | h
      · exact .inr (.inl h)
      · exact .inr (.inr ⟨none_back s1 (n2 b h).1, (n2 b h).2⟩)
theorem vb_put {mp : R (List δ × (List δ → α))} {me : R δ} {mk : R Int} {k : α → R β} (h : PS X st (tAsg (tE X.K W E X.N.length ρ s2 me) (gSub (tP X.K W E X.N.length ρ i s r a (.lst s2) mp) (tE X.K W E X.N.length ρ .frz mk) rSetL))) (hr : ∀ z : α, VB X W E (se ρ i (.vl (.ow s r) (en z))) rest (k z) out) (hi : ρ i = .vl (.ow s r) (en a) := by rfl) :
    VB X W E ρ (st :: rest) (me.bind fun x => mp.bind fun p => mk.bind fun j => (putR p.1 j x).bind fun c => k (p.2 c)) out := (pss_cons h (pss_any hr)).wk fun De σ H ⟨H0, F0, F, kk, x, q⟩ => by
  obtain ⟨v, fp, o⟩ := kk.own hi
  refine ⟨H0, F, kk, ((hds_bind q).hd σ kk.same).imp fun y q0 u H1 F1 fq s1 x1 f1 w1 n1 => ?_⟩
  have k1 := kk.grow s1 x1 f1
  refine ⟨H0, F1, k1, v, fp, o.up s1 x1 f1, ((hds_bind q0).hd σ k1.same).imp fun p q1 v' fa H2 F2 s2' x2 f2 foc => ?_⟩
  have wl : Ow X.K W.rc F2 H2 (.lst s2) v' (.list (p.1.map en)) fa := foc.1
  cases wl with
  | sc z _ => cases z
  | lst z1 z2 z3 =>
    rename_i pa xs fx
    refine ⟨H0, F2, k1.grow s2' x2 f2, ((hds_bind q1).hd σ (k1.same.trans s2')).imp fun j q2 t H3 F3 _ s3 x3 f3 w3 _ => ?_⟩
    have ej : t = .int j := int_rp w3.toRp.2
    have l := z2.len
    rw [List.length_map] at l
    have q2 := hds_bind q2
    unfold putR at q2
    cases hk : ixAt p.1.length j with
    | none => rw [hk] at q2; exact q2.elim
    | some kx =>
      rw [hk] at q2
      have hkl : kx < p.1.length := by
        unfold ixAt at hk
        split at hk
        · split at hk
          · cases hk; omega
          · cases hk
        · split at hk
          · cases hk; omega
          · cases hk
      refine ⟨pa, xs, j, kx, rfl, ej, s3 _ _ z1, by rw [show ixN xs.length j = ixAt xs.length j from rfl, l]; exact hk, p.2 (p.1.set kx y), H0, F0, F3, ?_, x.trans kk.same ((x1.trans s1 x2).trans (s1.trans s2') x3), q2⟩
      have kmap : (p.1.map en)[kx]? = some (en p.1[kx]) := by rw [List.getElem?_map, List.getElem?_eq_getElem hkl]; rfl
      obtain ⟨vc, fc, fd, y1, y2, y3, y4, y5⟩ := z2.focus kmap
      have s12 := s1.trans s2'
      have s13 := s12.trans s3
      have x12 := x1.trans s1 x2
      have sub : ∀ b, b = pa ∨ b ∈ fx → b ∈ fp := fun b hb => by
        obtain ⟨_, fb, h1, _⟩ := foc
        refine (h1 b).mpr (.inl ?_)
        rcases hb with e | e
        · rw [e]; exact List.mem_cons_self
        · exact List.mem_cons_of_mem _ e
      have liv : ∀ b, b = pa ∨ b ∈ fx → ∃ w, H b = some w := fun b hb => o.ow.live b (sub b hb)
      have nq : ∀ b ∈ fq, b ≠ pa ∧ b ∉ fx := fun b hb => by
        refine ⟨fun e => ?_, fun e => ?_⟩
        · obtain ⟨w, e'⟩ := liv b (.inl e)
          rw [(n1 b hb).1] at e'; cases e'
        · obtain ⟨w, e'⟩ := liv b (.inr e)
          rw [(n1 b hb).1] at e'; cases e'
      have keep : ∀ b ∈ fx, upd H3 pa (.lst (xs.set kx u)) b = H2 b := fun b hb => by
        rw [upd_ne (fun e => by rw [e] at hb; exact z3 hb)]
        obtain ⟨w, e⟩ := z2.live b hb
        exact (s3 b w e).trans e.symm
      have w4 : Ow X.K W.rc F3 (upd H3 pa (.lst (xs.set kx u))) s2 u (en y) fq := w1.mono (x2.up.trans x3.up) fun b hb => by
        rw [upd_ne (nq b hb).1]
        obtain ⟨w, e⟩ := w1.live b hb
        exact (s3 _ _ (s2' b w e)).trans e.symm
      have nF : ∀ b ∈ fq, F3 b = none := fun b hb => by
        obtain ⟨w, e⟩ := w1.live b hb
        exact (x2.trans s2' x3).out e (n1 b hb).2
      obtain ⟨fr, r1, r2⟩ := y5 F3 (upd H3 pa (.lst (xs.set kx u))) u (en y) fq x3.up (fun b hb => keep b ((y3 b).mpr (.inr hb))) w4 fun b hb hc => (nq b hb).2 ((y3 b).mpr (.inr hc))
      have np : pa ∉ fr := fun hp => by
        rcases (r1 pa).mp hp with h | h
        · exact (nq pa h).1 rfl
        · exact z3 ((y3 pa).mpr (.inr h))
      refine o.mut (z := p.1.set kx y) (fq := pa :: fr) s12 x12 f2 foc s3 x3 f3 (.lst upd_same (by rw [List.map_set]; exact r2) np) kk.sub fun b hb => ?_
      rcases List.mem_cons.mp hb with e | hb
      · exact .inl e
      · rcases (r1 b).mp hb with h | h
        · exact .inr (.inr ⟨(n1 b h).1, nF b h⟩)
        · exact .inr (.inl ((y3 b).mpr (.inr h)))
end
end Tx

set_option Elab.async false
set_option linter.all false
set_option maxRecDepth 100000
set_option maxHeartbeats 4000000
/-! A13: the rules by kinds of values. -/
namespace Tx
open PySem L2 En EnL

theorem o2_catT {K : PySem.W.Frag} : OpD K (rCatT K) catTD := fun W E F H x y d1 d2 Q s r1 r2 m => by
  cases r1 with
  | @tup a xs ds h1 h2 =>
    cases r2 with
    | @tup b ys es h3 h4 =>
      have m : Hd E W H (if ds.length + es.length ≤ big ∧ ds ≠ [] ∧ es ≠ [] then R.ok (.tuple (ds ++ es)) else .no) (VPost K W F H Q) := m
      by_cases z : ds.length + es.length ≤ big ∧ ds ≠ [] ∧ es ≠ []
      · rw [if_pos z] at m
        have l1 := h2.len
        have l2 := h4.len
        have n1 : xs ≠ [] := fun e => by subst e; exact z.2.1 (List.eq_nil_of_length_eq_zero l1.symm)
        have n2 : ys ≠ [] := fun e => by subst e; exact z.2.2 (List.eq_nil_of_length_eq_zero l2.symm)
        exact ⟨a, b, xs, ys, rfl, rfl, sqt_mono s h1, sqt_mono s h3, n1, by rw [l1, l2]; exact Nat.le_trans z.1 big_le, fun e => (n2 e).elim, fun _ p hp =>
          m _ _ (upd F p (.tup (xs ++ ys))) (same_upd hp) (Ext.one hp s) (same_upd2 s) (.tup (SqT.of upd_same) ((h2.app h4).up (Ext.one hp s).up))⟩
      · rw [if_neg z] at m; exact False.elim m
    | _ => exact False.elim m
  | _ => cases r2 <;> exact False.elim m

/-! ### kinds that may be compared -/
class Lay (α : Type) [En α] where
  dp : Nat
  lay : ∀ a : α, (en a).canLay0 = true
  dep : ∀ a : α, (en a).depth ≤ dp
class LEq (α : Type) [En α] [DecidableEq α] extends Lay α where
  eqv : ∀ a b : α, PyData.eqv (en a) (en b) = decide (a = b)
theorem dec_b {p q : Prop} [Decidable p] [Decidable q] (h : p ↔ q) : decide p = decide q := by simp only [h]
theorem layAll {α : Type} [En α] [Lay α] : ∀ l : List α, PyData.canLayAll0 (l.map en) = true
  | [] => rfl
  | a :: r => by rw [List.map_cons, PyData.canLayAll0, Lay.lay a, layAll r]; rfl
theorem depAll {α : Type} [En α] [Lay α] : ∀ l : List α, PyData.depthAll (l.map en) ≤ Lay.dp α
  | [] => Nat.zero_le _
  | a :: r => by rw [List.map_cons, PyData.depthAll]; exact Nat.max_le.mpr ⟨Lay.dep a, depAll r⟩
theorem eqvAll_map {α : Type} [En α] [DecidableEq α] [LEq α] : ∀ l r : List α, PyData.eqvAll (l.map en) (r.map en) = decide (l = r)
  | [], [] => by simp [PyData.eqvAll]
  | [], b :: r => by simp [PyData.eqvAll]
  | a :: l, [] => by simp [PyData.eqvAll]
  | a :: l, b :: r => by
    rw [List.map_cons, List.map_cons, PyData.eqvAll, LEq.eqv, eqvAll_map l r, ← Bool.decide_and]
    exact dec_b (by simp)
instance : LEq Int where
  dp := 0
  lay := fun _ => rfl
  dep := fun _ => Nat.le_refl _
  eqv := fun a b => by show PyData.eqv (.int a) (.int b) = _; rw [PyData.eqv]; by_cases h : a = b <;> simp [h]
instance : LEq Bool where
  dp := 0
  lay := fun _ => rfl
  dep := fun _ => Nat.le_refl _
  eqv := fun a b => by show PyData.eqv (.bool a) (.bool b) = _; rw [PyData.eqv]; by_cases h : a = b <;> simp [h]
instance : LEq Unit where
  dp := 0
  lay := fun _ => rfl
  dep := fun _ => Nat.le_refl _
  eqv := fun a b => rfl
instance {α : Type} [En α] [DecidableEq α] [LEq α] : LEq (List α) where
  dp := Lay.dp α + 1
  lay := fun l => by show PyData.canLay0 (.list (l.map en)) = true; rw [PyData.canLay0]; exact layAll l
  dep := fun l => by show PyData.depth (.list (l.map en)) ≤ _; rw [PyData.depth]; exact Nat.succ_le_succ (depAll l)
  eqv := fun a b => by show PyData.eqv (.list (a.map en)) (.list (b.map en)) = _; rw [PyData.eqv]; exact eqvAll_map a b
instance {α : Type} [En α] [DecidableEq α] [LEq α] : LEq (Tu α) where
  dp := Lay.dp α + 1
  lay := fun l => by show PyData.canLay0 (.tuple (l.l.map en)) = true; rw [PyData.canLay0]; exact layAll l.l
  dep := fun l => by show PyData.depth (.tuple (l.l.map en)) ≤ _; rw [PyData.depth]; exact Nat.succ_le_succ (depAll l.l)
  eqv := fun a b => by
    show PyData.eqv (.tuple (a.l.map en)) (.tuple (b.l.map en)) = _
    rw [PyData.eqv, eqvAll_map a.l b.l]
    exact dec_b ⟨fun h => by cases a; cases b; cases h; rfl, fun h => by rw [h]⟩
instance {α β : Type} [En α] [En β] [DecidableEq α] [DecidableEq β] [LEq α] [LEq β] : LEq (α × β) where
  dp := max (Lay.dp α) (Lay.dp β) + 1
  lay := fun x => by show PyData.canLay0 (.tuple [en x.1, en x.2]) = true; simp [PyData.canLay0, PyData.canLayAll0, Lay.lay]
  dep := fun x => by
    show PyData.depth (.tuple [en x.1, en x.2]) ≤ _
    have h1 := Lay.dep x.1
    have h2 := Lay.dep x.2
    simp only [PyData.depth, PyData.depthAll]; omega
  eqv := fun x y => by
    show PyData.eqv (.tuple [en x.1, en x.2]) (.tuple [en y.1, en y.2]) = _
    simp only [PyData.eqv, PyData.eqvAll, LEq.eqv, Bool.and_true, ← Bool.decide_and]
    exact dec_b Prod.ext_iff.symm
instance {α β γ : Type} [En α] [En β] [En γ] [DecidableEq α] [DecidableEq β] [DecidableEq γ] [LEq α] [LEq β] [LEq γ] : LEq (T3 α β γ) where
  dp := max (Lay.dp α) (max (Lay.dp β) (Lay.dp γ)) + 1
  lay := fun x => by show PyData.canLay0 (.tuple [en x.a, en x.b, en x.c]) = true; simp [PyData.canLay0, PyData.canLayAll0, Lay.lay]
  dep := fun x => by
    show PyData.depth (.tuple [en x.a, en x.b, en x.c]) ≤ _
    have h1 := Lay.dep x.a
    have h2 := Lay.dep x.b
    have h3 := Lay.dep x.c
    simp only [PyData.depth, PyData.depthAll]; omega
  eqv := fun x y => by
    show PyData.eqv (.tuple [en x.a, en x.b, en x.c]) (.tuple [en y.a, en y.b, en y.c]) = _
    simp only [PyData.eqv, PyData.eqvAll, LEq.eqv, Bool.and_true, ← Bool.decide_and]
    exact dec_b ⟨fun ⟨h1, h2, h3⟩ => by cases x; cases y; cases h1; cases h2; cases h3; rfl, fun h => by rw [h]; exact ⟨rfl, rfl, rfl⟩⟩
instance {α β γ δ : Type} [En α] [En β] [En γ] [En δ] [DecidableEq α] [DecidableEq β] [DecidableEq γ] [DecidableEq δ] [LEq α] [LEq β] [LEq γ] [LEq δ] : LEq (T4 α β γ δ) where
  dp := max (Lay.dp α) (max (Lay.dp β) (max (Lay.dp γ) (Lay.dp δ))) + 1
  lay := fun x => by show PyData.canLay0 (.tuple [en x.a, en x.b, en x.c, en x.d]) = true; simp [PyData.canLay0, PyData.canLayAll0, Lay.lay]
  dep := fun x => by
    show PyData.depth (.tuple [en x.a, en x.b, en x.c, en x.d]) ≤ _
    have h1 := Lay.dep x.a
    have h2 := Lay.dep x.b
    have h3 := Lay.dep x.c
    have h4 := Lay.dep x.d
    simp only [PyData.depth, PyData.depthAll]; omega
  eqv := fun x y => by
    show PyData.eqv (.tuple [en x.a, en x.b, en x.c, en x.d]) (.tuple [en y.a, en y.b, en y.c, en y.d]) = _
    simp only [PyData.eqv, PyData.eqvAll, LEq.eqv, Bool.and_true, ← Bool.decide_and]
    exact dec_b ⟨fun ⟨h1, h2, h3, h4⟩ => by cases x; cases y; cases h1; cases h2; cases h3; cases h4; rfl, fun h => by rw [h]; exact ⟨rfl, rfl, rfl, rfl⟩⟩
theorem okD_en {α : Type} [En α] [Lay α] (hd : Lay.dp α ≤ 64) (a : α) : okD (en a) = true := by
  unfold okD
  rw [Lay.lay a, decide_eq_true (Nat.le_trans (Lay.dep a) hd)]; rfl
theorem eqD_en {α : Type} [En α] [DecidableEq α] [LEq α] (hd : Lay.dp α ≤ 64) (a b : α) : eqD (en a) (en b) = .ok (decide (a = b)) := by
  have h := LEq.eqv a b
  have h1 := okD_en hd a
  have h2 := okD_en hd b
  unfold eqD
  split
  · rename_i x y e1 e2
    rw [e1, e2, PyData.eqv] at h
    rw [← h]
    by_cases z : x = y <;> simp [z]
  · rw [h1, h2, h]; rfl

/-! ### what is compared, by kinds -/
def cLt (x y : Int) : R Bool := .ok (decide (x < y))
def cLe (x y : Int) : R Bool := .ok (decide (x ≤ y))
def cGt (x y : Int) : R Bool := .ok (decide (y < x))
def cGe (x y : Int) : R Bool := .ok (decide (y ≤ x))
theorem hLt (x y : Int) : ltD (en x) (en y) = (cLt x y).map en := rfl
theorem hLe (x y : Int) : leD (en x) (en y) = (cLe x y).map en := rfl
theorem hGt (x y : Int) : gtD (en x) (en y) = (cGt x y).map en := rfl
theorem hGe (x y : Int) : geD (en x) (en y) = (cGe x y).map en := rfl
section
variable {α β : Type} [En α] [En β]
def cEqR (x : α) (y : β) : R Bool := eqD (en x) (en y)
def cNeR (x : α) (y : β) : R Bool := (eqD (en x) (en y)).map fun b => !b
theorem hEqR (x : α) (y : β) : eqV2 (en x) (en y) = (cEqR x y).map en := rfl
theorem hNeR (x : α) (y : β) : neV2 (en x) (en y) = (cNeR x y).map en := by
  unfold cNeR neV2
  rw [R.map_map]; rfl
def cEq [DecidableEq α] (x y : α) : R Bool := .ok (decide (x = y))
def cNe [DecidableEq α] (x y : α) : R Bool := .ok (decide (x ≠ y))
theorem hEq [DecidableEq α] [LEq α] (hd : Lay.dp α ≤ 64 := by decide) (x y : α) : eqV2 (en x) (en y) = (cEq x y).map en := by
  unfold eqV2; rw [eqD_en hd]; rfl
theorem hNe [DecidableEq α] [LEq α] (hd : Lay.dp α ≤ 64 := by decide) (x y : α) : neV2 (en x) (en y) = (cNe x y).map en := by
  unfold neV2; rw [eqD_en hd]
  show R.ok (PyData.bool _) = R.ok (PyData.bool _)
  by_cases h : x = y <;> simp [h]
def cEqS (x y : Str) : R Bool := .ok (decide (x = y))
def cNeS (x y : Str) : R Bool := .ok (decide (x ≠ y))
theorem hEqS (x y : Str) : eqV2 (en x) (en y) = (cEqS x y).map en := rfl
theorem hNeS (x y : Str) : neV2 (en x) (en y) = (cNeS x y).map en := by
  show R.ok (PyData.bool _) = R.ok (PyData.bool _)
  by_cases h : x = y <;> simp [h]
/-- data that is not None -/
class NN (α : Type) [En α] : Prop where
  nn : ∀ a : α, en a ≠ .none
instance : NN Int := ⟨fun _ h => by cases h⟩
instance : NN Bool := ⟨fun _ h => by cases h⟩
instance : NN (List α) := ⟨fun _ h => by cases h⟩
instance : NN (Tu α) := ⟨fun _ h => by cases h⟩
instance : NN (α × β) := ⟨fun _ h => by cases h⟩
instance {γ : Type} [En γ] : NN (T3 α β γ) := ⟨fun _ h => by cases h⟩
def cIsN (x : Option α) (_ : Unit) : R Bool := .ok x.isNone
def cIsS (x : Option α) (_ : Unit) : R Bool := .ok x.isSome
theorem hIsN [NN α] (x : Option α) (y : Unit) : isNoneD (en x) (en y) = (cIsN x y).map en := by
  cases x with
  | none => rfl
  | some a =>
    have h := NN.nn a
    show isNoneD (en a) .none = .ok (.bool false)
    generalize en a = d at h
    cases d <;> first | rfl | (exact (h rfl).elim)
theorem hIsS [NN α] (x : Option α) (y : Unit) : isNotNoneD (en x) (en y) = (cIsS x y).map en := by
  cases x with
  | none => rfl
  | some a =>
    have h := NN.nn a
    show isNotNoneD (en a) .none = .ok (.bool true)
    generalize en a = d at h
    cases d <;> first | rfl | (exact (h rfl).elim)
/-- in a list -/
def inLD (x : D) : D → R D
  | .list ds => if okD x && okD (.list ds) then .ok (.bool (ds.any fun z => PyData.eqv z x)) else .no
  | _ => .no
def niLD (x : D) : D → R D
  | .list ds => if okD x && okD (.list ds) then .ok (.bool (!ds.any fun z => PyData.eqv z x)) else .no
  | _ => .no
theorem o2_inL {K : PySem.W.Frag} : OpD K (rInD K) inLD := fun W E F H x y d1 d2 Q s r1 r2 m => by
  cases r2 with
  | @lst a xs ds h1 h2 =>
    have m : Hd E W H (if (okD d1 && okD (.list ds)) = true then R.ok (.bool (ds.any fun z => PyData.eqv z d1)) else .no) (VPost K W F H Q) := m
    by_cases z : (okD d1 && okD (.list ds)) = true
    · rw [if_pos z] at m
      simp only [Bool.and_eq_true] at z
      exact ⟨d1, ds, (r1.up s).dp _ _ (okD_l z.1), (Rp.up (.lst h1 h2) s).dp _ _ (okD_l z.2), z.1, z.2, m _ H F (Same.refl H) (Ext.refl F H) s (.bl _)⟩
    · rw [if_neg z] at m; exact m.elim
  | _ => exact m.elim
theorem o2_niL {K : PySem.W.Frag} : OpD K (rNotInD K) niLD := fun W E F H x y d1 d2 Q s r1 r2 m => by
  cases r2 with
  | @lst a xs ds h1 h2 =>
    have m : Hd E W H (if (okD d1 && okD (.list ds)) = true then R.ok (.bool (!ds.any fun z => PyData.eqv z d1)) else .no) (VPost K W F H Q) := m
    by_cases z : (okD d1 && okD (.list ds)) = true
    · rw [if_pos z] at m
      simp only [Bool.and_eq_true] at z
      exact ⟨d1, ds, (r1.up s).dp _ _ (okD_l z.1), (Rp.up (.lst h1 h2) s).dp _ _ (okD_l z.2), z.1, z.2, m _ H F (Same.refl H) (Ext.refl F H) s (.bl _)⟩
    · rw [if_neg z] at m; exact m.elim
  | _ => exact m.elim
def cIn [DecidableEq α] (x : α) (l : List α) : R Bool := .ok (decide (x ∈ l))
def cNi [DecidableEq α] (x : α) (l : List α) : R Bool := .ok (decide (x ∉ l))
theorem any_eqv [DecidableEq α] [LEq α] (x : α) : ∀ l : List α, ((l.map en).any fun z => PyData.eqv z (en x)) = decide (x ∈ l)
  | [] => rfl
  | y :: r => by
    rw [List.map_cons, List.any_cons, LEq.eqv, any_eqv x r, ← Bool.decide_or]
    exact dec_b (by simp [eq_comm])
theorem hIn [DecidableEq α] [LEq α] (hd : Lay.dp (List α) ≤ 64 := by decide) (x : α) (l : List α) : inLD (en x) (en l) = (cIn x l).map en := by
  have h1 : okD (en x) = true := okD_en (Nat.le_trans (Nat.le_succ _) hd) x
  have h2 : okD (.list (l.map en)) = true := okD_en hd l
  show (if (okD (en x) && okD (.list (l.map en))) = true then R.ok (PyData.bool ((l.map en).any fun z => PyData.eqv z (en x))) else .no) = _
  rw [h1, h2, any_eqv]; rfl
theorem hNi [DecidableEq α] [LEq α] (hd : Lay.dp (List α) ≤ 64 := by decide) (x : α) (l : List α) : niLD (en x) (en l) = (cNi x l).map en := by
  have h1 : okD (en x) = true := okD_en (Nat.le_trans (Nat.le_succ _) hd) x
  have h2 : okD (.list (l.map en)) = true := okD_en hd l
  show (if (okD (en x) && okD (.list (l.map en))) = true then R.ok (PyData.bool (!(l.map en).any fun z => PyData.eqv z (en x))) else .no) = _
  rw [h1, h2, any_eqv]
  show R.ok (PyData.bool _) = R.ok (PyData.bool _)
  by_cases h : x ∈ l <;> simp [h]
/-- flat data -/
class Fl (α : Type) [En α] [DecidableEq α] : Prop where
  fl : ∀ a : α, flatD (en a) = true
  eq : ∀ a b : α, eqF (en a) (en b) = decide (a = b)
instance : Fl Int := ⟨fun _ => rfl, fun a b => by show (a == b) = _; by_cases h : a = b <;> simp [h]⟩
instance : Fl Str := ⟨fun _ => rfl, fun a b => rfl⟩
def cInT [DecidableEq α] (x : α) (l : Tu α) : R Bool := .ok (decide (x ∈ l.l))
def cNiT [DecidableEq α] (x : α) (l : Tu α) : R Bool := .ok (decide (x ∉ l.l))
theorem any_eqF [DecidableEq α] [Fl α] (x : α) : ∀ l : List α, ((l.map en).any fun z => eqF z (en x)) = decide (x ∈ l)
  | [] => rfl
  | y :: r => by
    rw [List.map_cons, List.any_cons, Fl.eq, any_eqF x r, ← Bool.decide_or]
    exact dec_b (by simp [eq_comm])
theorem all_flat [DecidableEq α] [Fl α] : ∀ l : List α, (l.map en).all flatD = true
  | [] => rfl
  | y :: r => by rw [List.map_cons, List.all_cons, Fl.fl, all_flat r]; rfl
theorem hInT [DecidableEq α] [Fl α] (x : α) (l : Tu α) : inD (en x) (en l) = (cInT x l).map en := by
  show (if (flatD (en x) && (l.l.map en).all flatD) = true then R.ok (PyData.bool ((l.l.map en).any fun y => eqF y (en x))) else .no) = _
  rw [Fl.fl, all_flat, any_eqF]; rfl
theorem hNiT [DecidableEq α] [Fl α] (x : α) (l : Tu α) : notInD (en x) (en l) = (cNiT x l).map en := by
  show (if (flatD (en x) && (l.l.map en).all flatD) = true then R.ok (PyData.bool (!(l.l.map en).any fun y => eqF y (en x))) else .no) = _
  rw [Fl.fl, all_flat, any_eqF]
  show R.ok (PyData.bool _) = R.ok (PyData.bool _)
  by_cases h : x ∈ l.l <;> simp [h]
/-! ### items -/
theorem ixR_map (f : α → D) (xs : List α) (i : Int) : ixR (xs.map f) i = (ixR xs i).map f := by
  unfold ixR
  rw [List.length_map]
  cases ixAt xs.length i with
  | none => rfl
  | some k =>
    simp only [List.getElem?_map]
    cases xs[k]? <;> rfl
theorem hIxL (xs : List α) (i : Int) : ixD (en xs) (en i) = (ixR xs i).map en := ixR_map en xs i
theorem hIxT (xs : Tu α) (i : Int) : ixD (en xs) (en i) = (ixR xs.l i).map en := ixR_map en xs.l i
end
section
variable {X : Cx} {W : Vp} {E : L2.St → XK} {ρ : Env} {s : Sh} {e a b c : Expr} {es rest : List Expr} {pos : Pos}
variable {α β γ : Type} [En α] [En β] [En γ]
theorem te_add {m n : R Int} (ha : VE X W E ρ .frz a m) (hb : VE X W E ρ .frz b n) : VE X W E ρ .frz (.BinOp a .Add b pos) (m.bind fun x => n.bind fun y => .ok (x + y)) := ve_op op_add o2_add (fun x y => .ok (x + y)) (fun _ _ => rfl) ha hb
theorem te_sub {m n : R Int} (ha : VE X W E ρ .frz a m) (hb : VE X W E ρ .frz b n) : VE X W E ρ .frz (.BinOp a .Sub b pos) (m.bind fun x => n.bind fun y => .ok (x - y)) := ve_op op_sub o2_sub (fun x y => .ok (x - y)) (fun _ _ => rfl) ha hb
theorem te_mul {m n : R Int} (ha : VE X W E ρ .frz a m) (hb : VE X W E ρ .frz b n) : VE X W E ρ .frz (.BinOp a .Mult b pos) (m.bind fun x => n.bind fun y => mulR x y) := ve_op op_mulB o2_mul mulR (fun _ _ => rfl) ha hb
theorem te_div {m n : R Int} (ha : VE X W E ρ .frz a m) (hb : VE X W E ρ .frz b n) : VE X W E ρ .frz (.BinOp a .FloorDiv b pos) (m.bind fun x => n.bind fun y => divR x y) := ve_op op_divB o2_div divR (fun _ _ => rfl) ha hb
theorem te_mod {m n : R Int} (ha : VE X W E ρ .frz a m) (hb : VE X W E ρ .frz b n) : VE X W E ρ .frz (.BinOp a .Mod b pos) (m.bind fun x => n.bind fun y => modR x y) := ve_op op_modN o2_mod modR (fun _ _ => rfl) ha hb
theorem te_pow {m n : R Int} (ha : VE X W E ρ .frz a m) (hb : VE X W E ρ .frz b n) : VE X W E ρ .frz (.BinOp a .Pow b pos) (m.bind fun x => n.bind fun y => powR x y) := ve_op op_pow o2_pow powR (fun _ _ => rfl) ha hb
theorem te_neg {m : R Int} (ha : VE X W E ρ .frz a m) : VE X W E ρ .frz (.UnaryOp .USub a pos) (m.map fun x => -x) := by
  have h := ve_un1 (pos := pos) un_neg o1_neg (fun x : Int => .ok (-x)) (fun _ => rfl) ha
  have q : (m.bind fun x => R.ok (-x)) = m.map fun x => -x := by cases m <;> rfl
  exact ve_eq h q
theorem te_cat {m n : R (List α)} (ha : VE X W E ρ .frz a m) (hb : VE X W E ρ .frz b n) : VE X W E ρ (.lst .frz) (.BinOp a .Add b pos) (m.bind fun x => n.bind fun y => catR x y) := vn_op op_catR on_cat catR (fun x y => by
  show (if (x.map en).length + (y.map en).length ≤ big then R.ok (PyData.list (x.map en ++ y.map en)) else .no) = (catR x y).map en
  unfold catR
  rw [List.length_map, List.length_map]
  split
  · show _ = R.ok (PyData.list ((x ++ y).map en))
    rw [List.map_append]
  · rfl) ha hb
theorem te_rep {m : R (List α)} {n : R Int} (ha : VE X W E ρ .frz a m) (hb : VE X W E ρ .frz b n) : VE X W E ρ (.lst .frz) (.BinOp a .Mult b pos) (m.bind fun x => n.bind fun y => repR x y) := vn_op op_repR on_rep repR (fun x k => by
  show (if -(2 ^ 63) ≤ k ∧ k < 2 ^ 63 ∧ (x.map en).length * k.toNat ≤ big then R.ok (PyData.list (List.replicate k.toNat (x.map en)).flatten) else .no) = (repR x k).map en
  unfold repR
  rw [List.length_map]
  split
  · show _ = R.ok (PyData.list ((List.replicate k.toNat x).flatten.map en))
    rw [List.map_flatten, List.map_replicate]
  · rfl) ha hb
theorem te_ixL {m : R (List α)} {n : R Int} (ha : VE X W E ρ .frz a m) (hb : VE X W E ρ .frz b n) (hs : PlainIx b := by exact fun _ _ => rfl) : VE X W E ρ .frz (.Subscript a b pos) (m.bind fun x => n.bind fun y => ixR x y) := ve_ix ix_seq o2_ix ixR hIxL ha hb hs
theorem te_ixT {m : R (Tu α)} {n : R Int} (ha : VE X W E ρ .frz a m) (hb : VE X W E ρ .frz b n) (hs : PlainIx b := by exact fun _ _ => rfl) : VE X W E ρ .frz (.Subscript a b pos) (m.bind fun x => n.bind fun y => ixR x.l y) := ve_ix ix_seq o2_ix (fun x y => ixR x.l y) hIxT ha hb hs
/-- the part of a tuple at a written place -/
theorem te_prj {m : R α} {i : Int} (f : α → β) (ha : VE X W E ρ .frz a m) (hb : VE X W E ρ .frz b (.ok i)) (hf : ∀ x, ixD (en x) (.int i) = .ok (en (f x)) := by intro _; rfl) (hs : PlainIx b := by exact fun _ _ => rfl) : VE X W E ρ .frz (.Subscript a b pos) (m.map f) :=
  (pe_ix ix_seq ha hb hs).wk fun σ H Q ⟨H0, F, k, q⟩ => ⟨H0, F, k, (hd_map q).imp fun d1 q1 v H1 F1 fp s1 x1 f1 w1 _ => ⟨H0, F1, k.grow s1 x1 f1, fun u H2 F2 fq s2 x2 f2 w2 _ => by
    refine o2_ix W (E σ) F2 H2 v u (en d1) (.int i) Q f2 (w1.toRp.2.up x2.up) w2.toRp.2 ?_
    rw [hf]
    exact (q1.step (s1.trans s2) (x1.trans s1 x2)).vp⟩⟩
theorem te_catT {m : R α} {n : R β} (f : α → β → γ) (ha : VE X W E ρ .frz a m) (hb : VE X W E ρ .frz b n) (hf : ∀ x y, catTD (en x) (en y) = .ok (en (f x y))) : VE X W E ρ .frz (.BinOp a .Add b pos) (m.bind fun x => n.bind fun y => .ok (f x y)) := ve_op op_catT o2_catT (fun x y => .ok (f x y)) hf ha hb
end
end Tx

set_option Elab.async false
set_option linter.all false
set_option maxRecDepth 100000
set_option maxHeartbeats 4000000
/-! A14: chains of comparisons; built-ins by kinds. -/
namespace Tx
open PySem L2 PyProof.Rows En EnL
section
variable {X : Cx}
structure PChV (X : Cx) (ops : List CmpOp) (es : List Expr) (t : V → TE) : Prop where
  run : ∀ (pos : Pos) (pins : List (Addr × Obj)) (s : Shared) (σ : L2.St) (H : Hp) (y : V) (u : Value) (Q : VK), Inv X pins σ H s → RelV y u → t y σ H Q → wpAny (model X.prog X.w) X.A (compareChain pos u ops (evalEach es X.env)) (EP X pins σ Q) X.xe s
structure PChT (X : Cx) (ops : List CmpOp) (es : List Expr) (t : V → TE) : Prop where
  run : ∀ (pos : Pos) (pins : List (Addr × Obj)) (s : Shared) (σ : L2.St) (H : Hp) (y : V) (u : Value) (Q : Bool → Hp → Prop), Inv X pins σ H s → RelV y u → t y σ H (fun z H' => ∃ k, z = .bl k ∧ Q k H') → wpAny (model X.prog X.w) X.A (testChain pos u ops (evalEach es X.env)) (TP X pins σ Q) X.xe s
def tChL (r : R2) (tb : TE) : V → TE := fun x σ H Q => tb σ H fun y H1 => r x y H1 Q
def tChK (r : R2) (tb : TE) (t : V → TE) : V → TE := fun x σ H Q => tb σ H fun y H1 => r x y H1 fun z H2 => ∃ k, z = .bl k ∧ if k = true then t y σ H2 Q else Q (.bl false) H2
variable {op op' : CmpOp} {ops : List CmpOp} {b c a : Expr} {es : List Expr} {r : R2} {tb ta : TE} {t : V → TE} {pos : Pos}
theorem chv_last (ho : OpR X (compareOp op) r) (hb : PE X b tb) : PChV X [op] [b] (tChL r tb) := ⟨fun pos pins s σ H y u Q I ry h =>
  chain_last (thn (hb.run pins s σ H _ I h) fun w s1 ⟨z, H1, I1, rz, q⟩ => ho pins s1 σ H1 y z u w Q I1 ry rz q)⟩
theorem cht_last (ho : OpR X (compareOp op) r) (hb : PE X b tb) : PChT X [op] [b] (tChL r tb) := ⟨fun pos pins s σ H y u Q I ry h =>
  test_last (thn (hb.run pins s σ H _ I h) fun w s1 ⟨z, H1, I1, rz, q⟩ => thn (ho pins s1 σ H1 y z u w _ I1 ry rz q) fun v s2 ⟨v', H2, I2, r2, k, e, q2⟩ => by
    subst e; cases r2
    exact wpAny_truthy_bool ⟨H2, I2, q2⟩)⟩
theorem chv_link (ho : OpR X (compareOp op) r) (hb : PE X b tb) (ht : PChV X (op' :: ops) (c :: es) t) : PChV X (op :: op' :: ops) (b :: c :: es) (tChK r tb t) := ⟨fun pos pins s σ H y u Q I ry h =>
  chain_link (thn (hb.run pins s σ H _ I h) fun w s1 ⟨z, H1, I1, rz, q⟩ => thn (ho pins s1 σ H1 y z u w _ I1 ry rz q) fun v s2 ⟨v', H2, I2, r2, k, e, q2⟩ => by
    subst e; cases r2
    refine wpAny_truthy_bool ?_
    cases k with
    | true => exact ht.run pos pins s2 σ H2 z w Q I2 rz q2
    | false => exact ⟨.bl false, H2, I2, rfl, q2⟩)⟩
theorem cht_link (ho : OpR X (compareOp op) r) (hb : PE X b tb) (ht : PChT X (op' :: ops) (c :: es) t) : PChT X (op :: op' :: ops) (b :: c :: es) (tChK r tb t) := ⟨fun pos pins s σ H y u Q I ry h =>
  test_link (thn (hb.run pins s σ H _ I h) fun w s1 ⟨z, H1, I1, rz, q⟩ => thn (ho pins s1 σ H1 y z u w _ I1 ry rz q) fun v s2 ⟨v', H2, I2, r2, k, e, q2⟩ => by
    subst e; cases r2
    refine wpAny_truthy_bool ?_
    cases k with
    | true => exact ht.run pos pins s2 σ H2 z w Q I2 rz q2
    | false =>
      obtain ⟨k', e', q'⟩ := q2
      cases e'
      exact ⟨H2, I2, q'⟩)⟩
variable {op1 : CmpOp}
theorem pe_chN (ha : PE X a ta) (ht : PChV X (op :: op1 :: ops) (b :: c :: es) t) (hm : lastMarks (op :: op1 :: ops) (b :: c :: es) = false := by with_unfolding_all rfl) : PE X (.Compare a (op :: op1 :: ops) (b :: c :: es) pos) (fun σ H Q => ta σ H fun x H1 => t x σ H1 Q) := ⟨fun pins s σ H Q I h =>
  Compare_chain (thn (ha.run pins s σ H _ I h) fun w s1 ⟨z, H1, I1, rz, q⟩ => ht.run pos pins s1 σ H1 z w Q I1 rz q) hm⟩
theorem pt_chN (ha : PE X a ta) (ht : PChT X (op :: op1 :: ops) (b :: c :: es) t) (hm : lastMarks (op :: op1 :: ops) (b :: c :: es) = false := by with_unfolding_all rfl) : PT X (.Compare a (op :: op1 :: ops) (b :: c :: es) pos) (fun σ H Q => ta σ H fun x H1 => t x σ H1 (fun z H' => ∃ k, z = .bl k ∧ Q k H')) := ⟨fun pins s σ H Q I h =>
  isTrue_chain (thn (ha.run pins s σ H _ I h) fun w s1 ⟨z, H1, I1, rz, q⟩ => ht.run pos pins s1 σ H1 z w Q I1 rz q) hm⟩
end


/-! ### .. by data -/
def tCh {α : Type} [En α] (K : PySem.W.Frag) (W : Vp) (E : L2.St → XK) (L : Nat) (ρ : Env) (m : α → R Bool) : V → TE := fun v σ H Q => ∃ H0 F a, EnvS K W.rc H0 F H L σ ρ ∧ Rp K W.rc F v (en a) ∧ Hd (E σ) W H (m a) fun b => Post K W F H .frz Q (en b)
abbrev VCh {α : Type} [En α] (X : Cx) (W : Vp) (E : L2.St → XK) (ρ : Env) (ops : List CmpOp) (es : List Expr) (m : α → R Bool) : Prop := PChV X ops es (tCh X.K W E X.N.length ρ m)
abbrev VChT {α : Type} [En α] (X : Cx) (W : Vp) (E : L2.St → XK) (ρ : Env) (ops : List CmpOp) (es : List Expr) (m : α → R Bool) : Prop := PChT X ops es (tCh X.K W E X.N.length ρ m)
theorem PChV.wk {X : Cx} {ops : List CmpOp} {es : List Expr} {t t' : V → TE} (h : PChV X ops es t) (i : ∀ v σ H Q, t' v σ H Q → t v σ H Q) : PChV X ops es t' := ⟨fun p pins s σ H y u Q I r q => h.run p pins s σ H y u Q I r (i y σ H Q q)⟩
theorem PChT.wk {X : Cx} {ops : List CmpOp} {es : List Expr} {t t' : V → TE} (h : PChT X ops es t) (i : ∀ v σ H Q, t' v σ H Q → t v σ H Q) : PChT X ops es t' := ⟨fun p pins s σ H y u Q I r q => h.run p pins s σ H y u Q I r (i y σ H _ q)⟩
section
variable {X : Cx} {W : Vp} {E : L2.St → XK} {ρ : Env} {op op' op1 : CmpOp} {ops : List CmpOp} {a b c : Expr} {es : List Expr} {r : R2} {f : D → D → R D} {pos : Pos} {α β : Type} [En α] [En β] {m : R α} {n : R β} {g : α → β → R Bool} {u : β → R Bool}
theorem chL_read {K : PySem.W.Frag} {L : Nat} (od : OpD K r f) (hf : ∀ x y, f (en x) (en y) = (g x y).map en) (v : V) (σ : L2.St) (H : Hp) (Q : VK) (h : tCh K W E L ρ (fun x => n.bind fun y => g x y) v σ H Q) : tChL r (tE K W E L ρ .frz n) v σ H Q := by
  obtain ⟨H0, F, x, k, rv, m⟩ := h
  refine ⟨H0, F, k, (hd_bind m).imp fun y m1 w H1 F1 fp s1 x1 f1 w1 _ => od W (E σ) F1 H1 v w (en x) (en y) Q f1 (rv.up x1.up) w1.toRp.2 ?_⟩
  rw [hf]
  exact hd_unmap ((m1.heap s1).imp fun z q => (q.step s1 x1).vp)
theorem chK_read {K : PySem.W.Frag} {L : Nat} (od : OpD K r f) (hf : ∀ x y, f (en x) (en y) = (g x y).map en) (v : V) (σ : L2.St) (H : Hp) (Q : VK) (h : tCh K W E L ρ (fun x => n.bind fun y => andR (g x y) (u y)) v σ H Q) : tChK r (tE K W E L ρ .frz n) (tCh K W E L ρ u) v σ H Q := by
  obtain ⟨H0, F, x, k, rv, m⟩ := h
  refine ⟨H0, F, k, (hd_bind m).imp fun y m1 w H1 F1 fp s1 x1 f1 w1 _ => od W (E σ) F1 H1 v w (en x) (en y) _ f1 (rv.up x1.up) w1.toRp.2 ?_⟩
  rw [hf]
  refine hd_unmap (((hd_bind m1).heap s1).imp fun z q y2 H2 F2 s2 x2 f2 r2 => ?_)
  refine ⟨z, bool_rp r2, ?_⟩
  cases z with
  | true =>
    show tCh K W E L ρ u w σ H2 Q
    exact ⟨H0, F2, y, (k.grow s1 x1 f1).grow s2 x2 f2, w1.toRp.2.up x2.up, (Hd.heap (r := u y) q (s1.trans s2)).imp fun z k => k.step (s1.trans s2) (x1.trans s1 x2)⟩
  | false => exact okH q (.bl false) H2 F2 [] (s1.trans s2) (x1.trans s1 x2) f2 (.fz (.bl false)) fun x hx => nomatch hx
theorem vc_last (ho : OpR X (compareOp op) r) (od : OpD X.K r f) (g : α → β → R Bool) (hf : ∀ x y, f (en x) (en y) = (g x y).map en) (hb : VE X W E ρ .frz b n) : VCh X W E ρ [op] [b] (fun x => n.bind fun y => g x y) := (chv_last ho hb).wk (chL_read od hf)
theorem vct_last (ho : OpR X (compareOp op) r) (od : OpD X.K r f) (g : α → β → R Bool) (hf : ∀ x y, f (en x) (en y) = (g x y).map en) (hb : VE X W E ρ .frz b n) : VChT X W E ρ [op] [b] (fun x => n.bind fun y => g x y) := (cht_last ho hb).wk (chL_read od hf)
theorem vc_link (ho : OpR X (compareOp op) r) (od : OpD X.K r f) (g : α → β → R Bool) (hf : ∀ x y, f (en x) (en y) = (g x y).map en) (hb : VE X W E ρ .frz b n) (ht : VCh X W E ρ (op' :: ops) (c :: es) u) : VCh X W E ρ (op :: op' :: ops) (b :: c :: es) (fun x => n.bind fun y => andR (g x y) (u y)) := (chv_link ho hb ht).wk (chK_read od hf)
theorem vct_link (ho : OpR X (compareOp op) r) (od : OpD X.K r f) (g : α → β → R Bool) (hf : ∀ x y, f (en x) (en y) = (g x y).map en) (hb : VE X W E ρ .frz b n) (ht : VChT X W E ρ (op' :: ops) (c :: es) u) : VChT X W E ρ (op :: op' :: ops) (b :: c :: es) (fun x => n.bind fun y => andR (g x y) (u y)) := (cht_link ho hb ht).wk (chK_read od hf)
theorem ch_read {K : PySem.W.Frag} {L : Nat} {t : α → R Bool} (σ : L2.St) (H : Hp) (Q : VK) (h : tE K W E L ρ .frz (m.bind t) σ H Q) : tE K W E L ρ .frz m σ H fun v H1 => tCh K W E L ρ t v σ H1 Q := by
  obtain ⟨H0, F, k, q⟩ := h
  exact ⟨H0, F, k, (hd_bind q).imp fun d m1 v H1 F1 fp s1 x1 f1 w1 _ => ⟨H0, F1, d, k.grow s1 x1 f1, w1.toRp.2, (m1.heap s1).imp fun z q => q.step s1 x1⟩⟩
theorem ve_ch {t : α → R Bool} (ha : VE X W E ρ .frz a m) (ht : VCh X W E ρ (op :: op1 :: ops) (b :: c :: es) t) (hm : lastMarks (op :: op1 :: ops) (b :: c :: es) = false := by with_unfolding_all rfl) : VE X W E ρ .frz (.Compare a (op :: op1 :: ops) (b :: c :: es) pos) (m.bind t) := (pe_chN ha ht hm).wk ch_read
theorem vt_ch {t : α → R Bool} (ha : VE X W E ρ .frz a m) (ht : VChT X W E ρ (op :: op1 :: ops) (b :: c :: es) t) (hm : lastMarks (op :: op1 :: ops) (b :: c :: es) = false := by with_unfolding_all rfl) : VT X W E ρ (.Compare a (op :: op1 :: ops) (b :: c :: es) pos) (m.bind t) :=
  (pt_chN ha ht hm).wk fun σ H Q ⟨H0, F, k, q⟩ => ⟨H0, F, k, (hd_bind q).imp fun d m1 v H1 F1 fp s1 x1 f1 w1 _ => ⟨H0, F1, d, k.grow s1 x1 f1, w1.toRp.2, (m1.heap s1).imp fun z q w H2 F2 fq s2 x2 f2 w2 _ => ⟨z, bool_rp w2.toRp.2, q H2 (s1.trans s2)⟩⟩⟩
/-- what is reckoned without fail -/
theorem vc_eq {u' : α → R Bool} (h : VCh X W E ρ ops es u') {v : α → R Bool} (q : u' = v) : VCh X W E ρ ops es v := q ▸ h
theorem vct_eq {u' : α → R Bool} (h : VChT X W E ρ ops es u') {v : α → R Bool} (q : u' = v) : VChT X W E ρ ops es v := q ▸ h
theorem vc_linkP {y : β} {g' : α → Bool} {z : Bool} (ho : OpR X (compareOp op) r) (od : OpD X.K r f) (g : α → β → R Bool) (hf : ∀ x y, f (en x) (en y) = (g x y).map en) (hb : VE X W E ρ .frz b (.ok y)) (ht : VCh X W E ρ (op' :: ops) (c :: es) u) (hg : ∀ x, g x y = .ok (g' x) := by intro _; rfl) (hu : u y = .ok z := by rfl) : VCh X W E ρ (op :: op' :: ops) (b :: c :: es) (fun x => .ok (g' x && z)) :=
  vc_eq (vc_link ho od g hf hb ht) (by funext x; show andR (g x y) (u y) = _; rw [hg, hu, andR_ok])
theorem vct_linkP {y : β} {g' : α → Bool} {z : Bool} (ho : OpR X (compareOp op) r) (od : OpD X.K r f) (g : α → β → R Bool) (hf : ∀ x y, f (en x) (en y) = (g x y).map en) (hb : VE X W E ρ .frz b (.ok y)) (ht : VChT X W E ρ (op' :: ops) (c :: es) u) (hg : ∀ x, g x y = .ok (g' x) := by intro _; rfl) (hu : u y = .ok z := by rfl) : VChT X W E ρ (op :: op' :: ops) (b :: c :: es) (fun x => .ok (g' x && z)) :=
  vct_eq (vct_link ho od g hf hb ht) (by funext x; show andR (g x y) (u y) = _; rw [hg, hu, andR_ok])
end
/-! ### repr of lists and tuples -/
def rRepr (K : PySem.W.Frag) : List V → Hp → VK → Prop := fun vs H Q => ∃ a d, vs = [.ref a] ∧ Dp K H (.ref a) d ∧ d.showable = true ∧ d.depth ≤ 64 ∧ d.shown.length ≤ sizeLine ∧ d.canLay0 = true ∧ Q (.str d.shown) H
theorem cr_repr {X : Cx} (hg : X.A.guards = some []) (hu : X.A.units + 66 < cLine) : CallR X (.builtin "repr") (rRepr X.K) := fun pins s σ H vs us Q I r ⟨a, d, e, hd, h1, h2, h3, h4, q⟩ => by
  subst e
  cases r with
  | cons r t =>
    cases t
    cases r
    obtain ⟨as, rd⟩ := Dp.reads I d (.ref a) (.ref a) hd rfl
    exact repr_of_reads' rd h1 (PyData.noDict_hsm (PyData.hasDict_of_canLay d h4)) hg (by omega) (fun _ _ z => z) (fun h' u tk hk => ⟨.str d.shown, H, I.kept (h' := h') (t' := tk) hk, ⟨u, rfl⟩, q⟩) h3

theorem ca_repr {K : PySem.W.Frag} : CaD K (rRepr K) fRepr := ca_one (fun W E F H v d Q s r m => by
  have m := hd_map (show Hd E W H ((reprR d).map .str) (VPost K W F H Q) from m)
  unfold reprR at m
  by_cases z : (d.showable && decide (d.depth ≤ 64) && decide (d.shown.length ≤ sizeLine) && okD d && !flatD d) = true
  · rw [if_pos z] at m
    simp only [Bool.and_eq_true, decide_eq_true_eq, Bool.not_eq_true'] at z
    obtain ⟨⟨⟨⟨z1, z2⟩, z3⟩, z4⟩, z5⟩ := z
    have dp := (r.up s).dp _ _ (okD_l z4)
    have ref : ∃ a, v = .ref a := by cases r <;> first | exact ⟨_, rfl⟩ | cases z5
    obtain ⟨a, rfl⟩ := ref
    exact ⟨a, d, rfl, dp, z1, z2, z3, okD_l z4, m _ H F (Same.refl H) (Ext.refl F H) s (.str _)⟩
  · rw [if_neg z] at m; exact False.elim m) fun ds z => not_one (g := fRepr) (f := fun d => fRepr [d]) (fun _ => rfl) rfl (fun a b r => by cases a <;> rfl) z

/-! ### built-ins by kinds -/
section
variable {α : Type} [En α]
def gLen (x : List α × Unit) : R Int := .ok x.1.length
def gLenT (x : Tu α × Unit) : R Int := .ok x.1.l.length
theorem hLen (x : List α × Unit) : fLen (enl x) = (gLen x).map en := by
  show R.ok (PyData.int ((x.1.map en).length : Int)) = _
  rw [List.length_map]; rfl
theorem hLenT (x : Tu α × Unit) : fLen (enl x) = (gLenT x).map en := by
  show R.ok (PyData.int ((x.1.l.map en).length : Int)) = _
  rw [List.length_map]; rfl
/-- of a tuple of told length -/
def gLenN (n : Int) (_ : α × Unit) : R Int := .ok n
def gAbs (x : Int × Unit) : R Int := .ok (absI x.1)
theorem hAbs (x : Int × Unit) : fAbs (enl x) = (gAbs x).map en := rfl
def gInt (x : Int × Unit) : R Int := .ok x.1
theorem hInt (x : Int × Unit) : fInt (enl x) = (gInt x).map en := rfl
def gIntB (x : Bool × Unit) : R Int := .ok (if x.1 then 1 else 0)
theorem hIntB (x : Bool × Unit) : fInt (enl x) = (gIntB x).map en := rfl
def gMax2 (x : Int × Int × Unit) : R Int := .ok (max2 x.1 x.2.1)
theorem hMax2 (x : Int × Int × Unit) : fMax2 (enl x) = (gMax2 x).map en := rfl
def gMin2 (x : Int × Int × Unit) : R Int := .ok (min2 x.1 x.2.1)
theorem hMin2 (x : Int × Int × Unit) : fMin2 (enl x) = (gMin2 x).map en := rfl
def gGcd (x : Int × Int × Unit) : R Int := .ok (gcdI x.1 x.2.1)
theorem hGcd (x : Int × Int × Unit) : fGcd (enl x) = (gGcd x).map en := rfl
theorem asInts_map : ∀ ns : List Int, asInts (ns.map en) = some ns
  | [] => rfl
  | i :: r => by
    show (asInts (r.map en)).map (i :: ·) = _
    rw [asInts_map r]; rfl
theorem asBools_map : ∀ ns : List Bool, asBools (ns.map en) = some ns
  | [] => rfl
  | i :: r => by
    show (asBools (r.map en)).map (i :: ·) = _
    rw [asBools_map r]; rfl
def gSum (x : List Int × Unit) : R Int := .ok x.1.sum
theorem hSum (x : List Int × Unit) : fSum (enl x) = (gSum x).map en := by
  show (match asInts (x.1.map en) with | some ns => R.ok (PyData.int ns.sum) | none => .no) = _
  rw [asInts_map]; rfl
def gAny (x : List Bool × Unit) : R Bool := .ok (x.1.any id)
theorem hAny (x : List Bool × Unit) : fAny (enl x) = (gAny x).map en := by
  show (match asBools (x.1.map en) with | some ns => R.ok (PyData.bool (ns.any id)) | none => .no) = _
  rw [asBools_map]; rfl
def gAll (x : List Bool × Unit) : R Bool := .ok (x.1.all id)
theorem hAll (x : List Bool × Unit) : fAll (enl x) = (gAll x).map en := by
  show (match asBools (x.1.map en) with | some ns => R.ok (PyData.bool (ns.all id)) | none => .no) = _
  rw [asBools_map]; rfl
def gList (x : List α × Unit) : R (List α) := .ok x.1
theorem hList (x : List α × Unit) : fList (enl x) = (gList x).map en := rfl
def gListT (x : Tu α × Unit) : R (List α) := .ok x.1.l
theorem hListT (x : Tu α × Unit) : fList (enl x) = (gListT x).map en := rfl
def gTuple (x : List α × Unit) : R (Tu α) := .ok ⟨x.1⟩
theorem hTuple (x : List α × Unit) : fTuple (enl x) = (gTuple x).map en := rfl
def gSorted (x : List Int × Unit) : R (List Int) := .ok (sortI x.1)
theorem hSorted (x : List Int × Unit) : fSorted (enl x) = (gSorted x).map en := by
  show (match asInts (x.1.map en) with | some ns => R.ok (PyData.list ((sortI ns).map PyData.int)) | none => .no) = _
  rw [asInts_map]; rfl
def gRepr (x : α × Unit) : R Str := reprR (en x.1)
theorem hRepr (x : α × Unit) : fRepr (enl x) = (gRepr x).map en := rfl
end
/-- isinstance against a built-in type -/
def isiR (T : String) (d : D) : R Bool := match tyD d with
  | some t => .ok (subT t T)
  | none => .no
section
variable {X : Cx} {W : Vp} {E : L2.St → XK} {ρ : Env} {e : Expr} {α β : Type} [En α] [En β] {m : R α} {T : String}
theorem te_isi (h : PE X e (tCB (rIsi X.K) (tCons (tE X.K W E X.N.length ρ .frz m) (tCons (L2.tC (.ty T)) tNil)))) (hk : ∀ t ∈ ["NoneType", "bool", "int", "str", "list", "tuple"], kitB t T = some (subT t T) := by decide +kernel) : VE X W E ρ .frz e (m.bind fun x => isiR T (en x)) := h.wk fun σ H Q ⟨H0, F, k, q⟩ =>
  ⟨H0, F, k, (hd_bind q).imp fun d m1 v H1 F1 fp s1 x1 f1 w1 _ => by
    have r1 := w1.toRp.2
    generalize en d = d at m1 r1
    unfold isiR at m1
    cases q : tyD d with
    | none => rw [q] at m1; exact False.elim m1
    | some t =>
      simp only [q] at m1
      have z : kitB t T = some (subT t T) := hk t (by cases d <;> cases q <;> simp)
      generalize subT t T = b at z m1
      · have fin : Q (.bl b) H1 := okH m1 _ H1 F1 [] s1 x1 f1 (.fz (.bl b)) fun x hx => nomatch hx
        have tx : TyX X.K H1 v (.type t) := by
          cases r1 with
          | non => cases q; exact .base .non
          | bl b => cases q; exact .base (.bl b)
          | int b => cases q; exact .base (.int b)
          | str b => cases q; exact .base (.str b)
          | lst h1 h2 =>
            cases q
            rcases sqr_mono f1 h1 with (h1 | ⟨o, h1⟩) | ⟨its, n, h1, _⟩
            · exact .base (.lst h1)
            · exact .base (.frz h1)
            · exact .kList h1 rfl
          | tup h1 h2 =>
            cases q
            rcases sqt_mono f1 h1 with (h1 | ⟨o, h1⟩) | ⟨o, its, n, h1, h2, _⟩
            · exact .base (.tup h1)
            · exact .fTuple h1
            · exact .kTuple h1 h2
          | obj h0 h1 h2 => cases q
          | dic h1 h2 => cases q
          | exn h1 => cases q
        exact ⟨v, .ty T, .type t, .type T, b, rfl, .ty T, tx, kit_ty z, fin⟩⟩
/-! ### list(range(n)), list(reversed(xs)) -/
def lrgR (n : Int) : R (List Int) := if 0 ≤ n ∧ n ≤ 100000 then .ok (rangeI 0 n) else .no
theorem rg_ints {K : PySem.W.Frag} {C : Rc} {H : Hp} (a b : Int) : RpA K C H (rgV a b) ((rangeI a b).map en) := by
  unfold rgV rangeI
  rw [List.map_map]
  generalize List.range (b - a).toNat = l
  induction l with
  | nil => exact .nil
  | cons k r ih => exact .cons (.int _) ih
theorem te_lrg {m : R Int} {p p2 pos pos2 : Pos} (hc : X.calm = true) (hg : Gl X "list") (hm : X.mg "list" = none) (hg2 : Gl X "range") (hm2 : X.mg "range" = none) (he : VE X W E ρ .frz e m)
    (z1 : starEach [e] X.env = (false, eval e X.env) :: starEach [] X.env := by rfl)
    (z2 : starEach [.Call (.Name "range" p2) [e] [] pos2] X.env = (false, eval (.Call (.Name "range" p2) [e] [] pos2) X.env) :: starEach [] X.env := by rfl) :
    VE X W E ρ (.lst .frz) (.Call (.Name "list" p) [.Call (.Name "range" p2) [e] [] pos2] [] pos) (m.bind lrgR) :=
  (pe_listRg hc hg hm (prg_1 hg2 hm2 he z1) z2).wk fun σ H Q ⟨H0, F, k, q⟩ => ⟨H0, F, k, (hd_bind q).imp fun n m1 v H1 F1 fp s1 x1 f1 w1 _ => by
    have ev := int_rp w1.toRp.2
    subst ev
    by_cases z : 0 ≤ n ∧ n ≤ 100000
    · have m2 := m1
      simp only [lrgR, if_pos z] at m2
      exact ⟨n, rfl, RgOk.of_le (by omega) (by omega) (by omega) (by omega), fun p hp => (okH m2).np p _ _ _ F1 rfl (s1.trans (same_upd hp)) x1 (f1.trans (same_upd hp)) (none_back s1 hp) (none_back f1 hp) upd_same (rg_ints 0 n)⟩
    · simp only [lrgR, if_neg z] at m1
      exact False.elim m1⟩
theorem RpA.rev {K : PySem.W.Frag} {C : Rc} {H : Hp} : ∀ {vs : List V} {ds : List D}, RpA K C H vs ds → RpA K C H vs.reverse ds.reverse
  | _, _, .nil => .nil
  | _, _, .cons h t => by
    rw [List.reverse_cons, List.reverse_cons]
    exact (RpA.rev t).app (.cons h .nil)
theorem te_rev {m : R (List α)} {p p2 pos pos2 : Pos} (hc : X.calm = true) (hg : Gl X "list") (hm : X.mg "list" = none) (hg2 : Gl X "reversed") (hm2 : X.mg "reversed" = none) (he : VE X W E ρ .frz e m)
    (z1 : starEach [e] X.env = (false, eval e X.env) :: starEach [] X.env := by rfl)
    (z2 : starEach [.Call (.Name "reversed" p2) [e] [] pos2] X.env = (false, eval (.Call (.Name "reversed" p2) [e] [] pos2) X.env) :: starEach [] X.env := by rfl) :
    VE X W E ρ (.lst .frz) (.Call (.Name "list" p) [.Call (.Name "reversed" p2) [e] [] pos2] [] pos) (m.map List.reverse) :=
  (pe_lstRev hc hg hm hg2 hm2 he z1 z2).wk fun σ H Q ⟨H0, F, k, q⟩ => ⟨H0, F, k, (hd_map q).imp fun d m1 v H1 F1 fp s1 x1 f1 w1 _ => by
    have r1 := w1.toRp.2
    cases r1 with
    | lst h1 h2 => exact ⟨_, _, rfl, sqr_l (sqr_mono f1 h1), fun p hp => m1.np p _ _ _ F1 (show en d.reverse = .list (d.map en).reverse by rw [← List.map_reverse]; rfl) (s1.trans (same_upd hp)) x1 (f1.trans (same_upd hp)) (none_back s1 hp) (none_back f1 hp) upd_same h2.rev⟩⟩
end
end Tx

set_option Elab.async false
set_option linter.all false
set_option maxRecDepth 100000
set_option maxHeartbeats 4000000
/-! A15: rules as they are printed. -/
namespace Tx
open PySem L2 PyProof.Rows En EnL

theorem Rm.rep {k : Nat} {A : Around} (r : Rm k A) : A.units + 66 < cLine := by have := r.room.un; omega
theorem Rm.u65 {k : Nat} {A : Around} (r : Rm k A) : A.units + 65 < cLine := by have := r.rep; omega
/-- another reading of what is assigned -/
theorem asg_wk {X : Cx} {st : Stmt} {te te' : TE} {g : L2.TG} (h : PS X st (tAsg te g)) (i : ∀ σ H Q, te' σ H Q → te σ H Q) : PS X st (tAsg te' g) := h.wk fun De σ H q => i σ H _ q
section
variable {K : PySem.W.Frag} {W : Vp} {E : L2.St → XK} {L : Nat} {ρ : Env} {s : Sh} {α β : Type} [En α] [En β] {m m' : R α}
theorem rd_frz (σ : L2.St) (H : Hp) (Q : VK) (h : tE K W E L ρ .frz m σ H Q) : tE K W E L ρ s m σ H Q := by
  obtain ⟨H0, F, k, q⟩ := h
  exact ⟨H0, F, k, q.imp fun _ => Post.frz⟩
theorem rd_eq (e : m = m') (σ : L2.St) (H : Hp) (Q : VK) (h : tE K W E L ρ s m' σ H Q) : tE K W E L ρ s m σ H Q := e ▸ h
theorem rd_gr [GrT s α] (σ : L2.St) (H : Hp) (Q : VK) (h : tE K W E L ρ s m σ H Q) : tE K W E L (fzA ρ) s m σ H Q := by
  obtain ⟨H0, F, k, q⟩ := h
  exact ⟨H, H, k.all, q.imp fun a p v H' F' fp s1 x1 f1 w n => p v H' F fp s1 (Ext.refl F H) (k.sub.trans s1) (w.ground (GrT.gr a)) fun x hx => ⟨(n x hx).1, by
    cases y : F x with
    | none => rfl
    | some o =>
      have z := (n x hx).1
      rw [k.sub x o y] at z; cases z⟩⟩
end
section
variable {X : Cx} {W : Vp} {E : L2.St → XK} {ρ : Env} {s : Sh} {α β : Type} [En α] [En β] {st : Stmt} {g0 : L2.TG} {m m' : R α}
theorem ps_frz (h : PS X st (tAsg (tE X.K W E X.N.length ρ s m) g0)) : PS X st (tAsg (tE X.K W E X.N.length ρ .frz m) g0) := asg_wk h rd_frz
theorem ps_gr [GrT s α] (h : PS X st (tAsg (tE X.K W E X.N.length (fzA ρ) s m) g0)) : PS X st (tAsg (tE X.K W E X.N.length ρ s m) g0) := asg_wk h rd_gr
theorem ps_eqm (h : PS X st (tAsg (tE X.K W E X.N.length ρ s m) g0)) (q : m = m') : PS X st (tAsg (tE X.K W E X.N.length ρ s m') g0) := asg_wk h (rd_eq q)
variable {elt tg iter : Expr} {ifs : List Expr} {scope : Scope} {own : List (Str × Nat)} {pos spos py : Pos} {mi : R (List α)} {g : GF} {ρx : α → Env} {t : α → R Bool} {f : α → R β} {r : List α → R (List β)} {i : Nat} {y : Str}
theorem lc_eq {K : PySem.W.Frag} {L : Nat} (hr : ∀ xs, noX (fmapR t f xs) = r xs) : (mi.bind fun xs => noX (fmapR t f xs)) = mi.bind r := by
  congr 1
  funext xs
  exact hr xs
theorem te_lc (hr : ∀ xs, noX (fmapR t f xs) = r xs) (hc : X.calm = true) (hN : X.N.Nodup) (hi : VI X W E ρ false tg iter mi) (ok : BlkOk X.N X.env.scope scope own)
    (hg : ∀ (s : Shared) (H : Hp) (C : Addr) (cl : List (Str × Addr)) (fp : List Addr), VG (X.blk s H scope (compEnvC scope cl C X.env) fp) W (fun i => (own.map (·.2)).contains i) tg g)
    (hx : ∀ x, g (en x) (wE ρ (own.map (·.2))) = some (ρx x))
    (ht : ∀ (x : α) (s : Shared) (H : Hp) (C : Addr) (cl : List (Str × Addr)) (fp : List Addr), VTs (X.blk s H scope (compEnvC scope cl C X.env) fp) W (ρx x) ifs (t x))
    (he : ∀ (x : α) (sh : Shared) (H : Hp) (C : Addr) (cl : List (Str × Addr)) (fp : List Addr), VE (X.blk sh H scope (compEnvC scope cl C X.env) fp) W EN (ρx x) s elt (f x)) (hs : ∀ z, foldedSetIterable iter X.env z = pure z := by intro _; rfl) :
    VE X W E ρ (.lst s) (.ListComp elt [⟨tg, iter, ifs, 0⟩] scope pos) (mi.bind r) := ve_eq (vn_lc hc hN hi ok hg hx ht he hs) (lc_eq (K := X.K) (L := 0) hr)
theorem ts_lc (hr : ∀ xs, noX (fmapR t f xs) = r xs) (hc : X.calm = true) (hN : X.N.Nodup) (hy : X.N[i]? = some y) (hyl : X.env.scope.names.lookup y = some .local)
    (hsw : swapsWith (.ListComp elt [⟨tg, iter, ifs, 0⟩] scope pos) (some (.Name y py)) spos.line X.env = pure true) (hi : VI X W E ρ false tg iter mi) (ok : BlkOk X.N X.env.scope scope own)
    (hg : ∀ (s : Shared) (H : Hp) (C : Addr) (cl : List (Str × Addr)) (fp : List Addr), VG (X.blk s H scope (compEnvC scope cl C X.env) fp) W (fun i => (own.map (·.2)).contains i) tg g)
    (hx : ∀ x, g (en x) (wE ρ (own.map (·.2))) = some (ρx x))
    (ht : ∀ (x : α) (s : Shared) (H : Hp) (C : Addr) (cl : List (Str × Addr)) (fp : List Addr), VTs (X.blk s H scope (compEnvC scope cl C X.env) fp) W (ρx x) ifs (t x))
    (he : ∀ (x : α) (sh : Shared) (H : Hp) (C : Addr) (cl : List (Str × Addr)) (fp : List Addr), VE (X.blk sh H scope (compEnvC scope cl C X.env) fp) W EN (ρx x) s elt (f x)) (hs : ∀ z, foldedSetIterable iter X.env z = pure z := by intro _; rfl) :
    PS X (.Assign [.Name y py] (.ListComp elt [⟨tg, iter, ifs, 0⟩] scope pos) spos) (tAsg (tE X.K W E X.N.length ρ (.lst s) (mi.bind r)) (gName i)) :=
  ps_eqm (asg_wk (ps_setLc hc hN hy hyl hsw hi ok hg (fun s H C cl fp => pts_any fun x => ht x s H C cl fp) (fun s H C cl fp => pe_any fun x => he x s H C cl fp) hs) (lc_read hx)) (lc_eq (K := X.K) (L := 0) hr)
end
section
variable {α β : Type} [En α] [En β] {f : α → R β} {h : α → β} {p : α → Bool} {t : α → R Bool}
theorem lcM (xs : List α) : noX (fmapR (fun _ => .ok true) f xs) = noX (mapR f xs) := by rw [fmapR_true]
theorem lcP (xs : List α) : noX (fmapR (fun _ => .ok true) (fun x => .ok (h x)) xs) = .ok (xs.map h) := by rw [fmapR_true, mapR_ok]; rfl
theorem lcFP (xs : List α) : noX (fmapR (fun x => .ok (p x)) (fun x => .ok (h x)) xs) = .ok ((xs.filter p).map h) := by rw [fmapR_ok]; rfl
omit [En α] [En β] in
theorem lcF (xs : List α) : noX (fmapR t f xs) = noX (fmapR t f xs) := rfl
end
end Tx

set_option Elab.async false
set_option linter.all false
set_option maxRecDepth 100000
set_option maxHeartbeats 4000000
/-! A16: rules in the order in which the printer wants them. -/
namespace Tx
open PySem L2 PyProof.Rows En EnL

theorem R.map_eq {α β : Type} (f : α → β) (m : R α) : m.map f = m.bind fun a => .ok (f a) := by cases m <;> rfl
theorem R.bind_eta {α : Type} (m : R α) : (m.bind fun c => .ok c) = m := by cases m <;> rfl
instance {s : Sh} {α β γ δ : Type} [En α] [GrT s α] [En β] [GrT s β] [En γ] [GrT s γ] [En δ] [GrT s δ] : GrT (.tup s) (T4 α β γ δ) := ⟨fun a => .tup fun d h => by
  rcases List.mem_cons.mp h with rfl | h
  · exact GrT.gr a.a
  · rcases List.mem_cons.mp h with rfl | h
    · exact GrT.gr a.b
    · rcases List.mem_cons.mp h with rfl | h
      · exact GrT.gr a.c
      · rcases List.mem_cons.mp h with rfl | h
        · exact GrT.gr a.d
        · cases h⟩
instance {α β γ δ : Type} [En α] [En β] [En γ] [En δ] : NN (T4 α β γ δ) := ⟨fun _ h => by cases h⟩
section
variable {X : Cx} {W : Vp} {E : L2.St → XK} {ρ : Env} {s : Sh} {st : Stmt} {rest body : List Stmt} {tg iter e : Expr} {pos : Pos} {b0 : Bool}
variable {α β S : Type} [En α] {g : GF}
theorem vi_eqm {m m' : R (List α)} (h : VI X W E ρ b0 tg e m) (q : m = m') : VI X W E ρ b0 tg e m' := q ▸ h
variable {out : β → Out}
theorem vb_ret0 {m : R α} {out : α → Out} (h : PS X st (tRet (tE X.K W E X.N.length ρ s m))) (ho : ∀ a, out a = .rt s (en a) none := by intro _; rfl) : VB X W E ρ [st] m out := by
  have h2 := vb_ret (inj := fun a : α => a) (out := out) h ho
  rw [R.map_id'] at h2
  exact h2
theorem vb_retP {x : α} {b : β} (h : PS X st (tRet (tE X.K W E X.N.length ρ s (.ok x)))) (ho : out b = .rt s (en x) none := by rfl) : VB X W E ρ [st] (.ok b) out := (pss_one h).wk fun De σ H ⟨H0, F0, F, kk, x', q⟩ =>
  ⟨H0, F, kk, fun v H1 F1 fp s1 x1 f1 w n => by
    have q : SPost X.K W X.N.length H0 F0 De (out b) := q
    rw [ho] at q
    exact q v H1 F1 fp (kk.same.trans s1) (x'.trans kk.same x1) f1 w fun a ha => ⟨none_back kk.same (n a ha).1, (n a ha).2⟩⟩
theorem tb_for {mi : R (List α)} {k : S → R β} {e : S → Env} {s0 : S} {ρx : α → S → Env} {f : α → S → R S} (hx : ∀ x s, g (en x) (e s) = some (ρx x s)) (hp : PassesOwn (model X.prog X.w) X.A X.env X.xe) (hc : X.calm = true) (hi : VI X W E ρ true tg iter mi) (hg : VG X W (fun _ => true) tg g) (hl : Le (e s0) ρ)
    (hb : ∀ x s, VB X W E (ρx x s) body (f x s) fun s' => .nc (e s')) (hr : ∀ s, VB X W E (e s) rest (k s) out) (hs : ∀ z, foldedSetIterable iter X.env z = pure z := by intro _; rfl) :
    VB X W E ρ (.For tg iter body [] pos :: rest) (mi.bind fun xs => (forR f xs s0).bind k) out := vb_for hp hc hi hg hl hb hr hx hs
theorem tb_loop {mi : R (List α)} {k : S → R β} {e : S → Env} {s0 : S} {ρx : α → S → Env} {f : α → S → R (Lc S β)} (hx : ∀ x s, g (en x) (e s) = some (ρx x s)) (hp : PassesOwn (model X.prog X.w) X.A X.env X.xe) (hc : X.calm = true) (hi : VI X W E ρ true tg iter mi) (hg : VG X W (fun _ => true) tg g) (hl : Le (e s0) ρ)
    (hb : ∀ x s, VB X W E (ρx x s) body (f x s) (lcOut e out)) (hr : ∀ s, VB X W E (e s) rest (k s) out) (hs : ∀ z, foldedSetIterable iter X.env z = pure z := by intro _; rfl) :
    VB X W E ρ (.For tg iter body [] pos :: rest) (mi.bind fun xs => thenR (loopR f xs s0) k) out := vb_loop hp hc hi hg hl hb hr hx hs
theorem tb_asg {m : R α} {P : Nat → Bool} {k : α → R β} {ρx : α → Env} (hg : ∀ a, g (en a) ρ = some (ρx a)) (h : PS X st (tAsg (tE X.K W E X.N.length ρ .frz m) (tG X.K W X.N.length P g))) (hr : ∀ a, VB X W E (ρx a) rest (k a) out) : VB X W E ρ (st :: rest) (m.bind k) out := vb_asg h hr hg
end
section
variable {X : Cx} {W : Vp} {E : L2.St → XK} {ρ : Env} {s s' s2 : Sh} {e b : Expr} {pos : Pos} {i : Nat} {r : Option V} {α γ δ β : Type} [En α] [En γ] [En δ] {a : α} {out : β → Out} {st : Stmt} {rest : List Stmt}
theorem tb_app {mp : R (List δ × (List δ → α))} {me : R δ} {m' : R α} {k : α → R β} (h : PS X st (tDrop (tBM X.K "list" rAppend (tP X.K W E X.N.length ρ i s r a (.lst s2) mp) (tCons (tE X.K W E X.N.length ρ s2 me) tNil)))) (q : (mp.bind fun p => me.bind fun x => (appR p.1 x).bind fun c => .ok (p.2 c)) = m') (hr : ∀ z : α, VB X W E (se ρ i (.vl (.ow s r) (en z))) rest (k z) out) (hi : ρ i = .vl (.ow s r) (en a) := by rfl) :
    VB X W E ρ (st :: rest) (m'.bind k) out := by
  have h2 := vb_app h hr hi
  subst q
  simp only [R.bind_assoc, R.ok_bind]
  exact h2
theorem tb_put {mp : R (List δ × (List δ → α))} {me : R δ} {mk : R Int} {m' : R α} {k : α → R β} (h : PS X st (tAsg (tE X.K W E X.N.length ρ s2 me) (gSub (tP X.K W E X.N.length ρ i s r a (.lst s2) mp) (tE X.K W E X.N.length ρ .frz mk) rSetL))) (q : (me.bind fun x => mp.bind fun p => mk.bind fun j => (putR p.1 j x).bind fun c => .ok (p.2 c)) = m') (hr : ∀ z : α, VB X W E (se ρ i (.vl (.ow s r) (en z))) rest (k z) out) (hi : ρ i = .vl (.ow s r) (en a) := by rfl) :
    VB X W E ρ (st :: rest) (m'.bind k) out := by
  have h2 := vb_put h hr hi
  subst q
  simp only [R.bind_assoc, R.ok_bind]
  exact h2
theorem tb_aug {f : Int → Int → Int} {m m' : R Int} {k : Int → R β} {a : Int} (h : PS X st (tAug i (tE X.K W E X.N.length ρ .frz m) (ipI f))) (ha : ρ i = .vl .fz (en a)) (q : (m.bind fun y => .ok (f a y)) = m') (hr : ∀ z, VB X W E (se ρ i (.vl .fz (en z))) rest (k z) out) (hi : Nat.blt i X.N.length = true := by rfl) : VB X W E ρ (st :: rest) (m'.bind k) out := by
  have h2 := vb_aug h ha hr hi
  subst q
  simp only [R.bind_assoc, R.ok_bind]
  exact h2
end
/-! ### what is reckoned, as it is told (by lemmas that are no definitions, so that the kernel goes step by step) -/
section
variable {α β : Type} [En α] [En β]
theorem R.okb {α β : Type} (a : α) (f : α → R β) : (R.ok a).bind f = f a := Eq.trans rfl rfl
theorem R.exb {α β : Type} (c : Nat) (f : α → R β) : (R.ex c : R α).bind f = .ex c := Eq.trans rfl rfl
theorem R.nob {α β : Type} (f : α → R β) : (R.no : R α).bind f = .no := Eq.trans rfl rfl
theorem q_gInt (x : Int × Unit) : gInt x = .ok x.1 := Eq.trans rfl rfl
theorem q_gIntB (x : Bool × Unit) : gIntB x = .ok (if x.1 then 1 else 0) := Eq.trans rfl rfl
theorem q_gLen (x : List α × Unit) : gLen x = .ok x.1.length := Eq.trans rfl rfl
theorem q_gLenT (x : Tu α × Unit) : gLenT x = .ok x.1.l.length := Eq.trans rfl rfl
theorem q_gLenN (n : Int) (x : α × Unit) : gLenN n x = .ok n := Eq.trans rfl rfl
theorem q_gAbs (x : Int × Unit) : gAbs x = .ok (absI x.1) := Eq.trans rfl rfl
theorem q_gMax2 (x : Int × Int × Unit) : gMax2 x = .ok (max2 x.1 x.2.1) := Eq.trans rfl rfl
theorem q_gMin2 (x : Int × Int × Unit) : gMin2 x = .ok (min2 x.1 x.2.1) := Eq.trans rfl rfl
theorem q_gGcd (x : Int × Int × Unit) : gGcd x = .ok (gcdI x.1 x.2.1) := Eq.trans rfl rfl
theorem q_gSum (x : List Int × Unit) : gSum x = .ok x.1.sum := Eq.trans rfl rfl
theorem q_gAny (x : List Bool × Unit) : gAny x = .ok (x.1.any id) := Eq.trans rfl rfl
theorem q_gAll (x : List Bool × Unit) : gAll x = .ok (x.1.all id) := Eq.trans rfl rfl
theorem q_gList (x : List α × Unit) : gList x = .ok x.1 := Eq.trans rfl rfl
theorem q_gListT (x : Tu α × Unit) : gListT x = .ok x.1.l := Eq.trans rfl rfl
theorem q_gTuple (x : List α × Unit) : gTuple x = .ok ⟨x.1⟩ := Eq.trans rfl rfl
theorem q_gSorted (x : List Int × Unit) : gSorted x = .ok (sortI x.1) := Eq.trans rfl rfl
theorem q_gRepr (x : α × Unit) : gRepr x = reprR (en x.1) := Eq.trans rfl rfl
theorem q_cLt (x y : Int) : cLt x y = .ok (decide (x < y)) := Eq.trans rfl rfl
theorem q_cLe (x y : Int) : cLe x y = .ok (decide (x ≤ y)) := Eq.trans rfl rfl
theorem q_cGt (x y : Int) : cGt x y = .ok (decide (y < x)) := Eq.trans rfl rfl
theorem q_cGe (x y : Int) : cGe x y = .ok (decide (y ≤ x)) := Eq.trans rfl rfl
theorem q_cEq [DecidableEq α] (x y : α) : cEq x y = .ok (decide (x = y)) := Eq.trans rfl rfl
theorem q_cNe [DecidableEq α] (x y : α) : cNe x y = .ok (decide (x ≠ y)) := Eq.trans rfl rfl
theorem q_cEqS (x y : Str) : cEqS x y = .ok (decide (x = y)) := Eq.trans rfl rfl
theorem q_cNeS (x y : Str) : cNeS x y = .ok (decide (x ≠ y)) := Eq.trans rfl rfl
theorem q_cEqR (x : α) (y : β) : cEqR x y = eqD (en x) (en y) := Eq.trans rfl rfl
theorem q_cNeR (x : α) (y : β) : cNeR x y = (eqD (en x) (en y)).bind fun b => .ok (!b) := R.map_eq _ _
theorem q_cIsN (x : Option α) (y : Unit) : cIsN x y = .ok x.isNone := Eq.trans rfl rfl
theorem q_cIsS (x : Option α) (y : Unit) : cIsS x y = .ok x.isSome := Eq.trans rfl rfl
theorem q_cIn [DecidableEq α] (x : α) (l : List α) : cIn x l = .ok (decide (x ∈ l)) := Eq.trans rfl rfl
theorem q_cNi [DecidableEq α] (x : α) (l : List α) : cNi x l = .ok (decide (x ∉ l)) := Eq.trans rfl rfl
theorem q_cInT [DecidableEq α] (x : α) (l : Tu α) : cInT x l = .ok (decide (x ∈ l.l)) := Eq.trans rfl rfl
theorem q_cNiT [DecidableEq α] (x : α) (l : Tu α) : cNiT x l = .ok (decide (x ∉ l.l)) := Eq.trans rfl rfl
end
end Tx

set_option Elab.async false
set_option linter.all false
set_option maxRecDepth 100000
set_option maxHeartbeats 4000000
/-! A17: instances: their data, their fields. -/
namespace Tx
open PySem L2 PyProof.Rows En EnL

/-- the pairs of names and data -/
def zipD : List Str → List D → List (D × D)
  | n :: ns, d :: ds => (.str n, d) :: zipD ns ds
  | _, _ => []
def zipS : List Str → List Sh → List (Str × Sh)
  | n :: ns, d :: ds => (n, d) :: zipS ns ds
  | _, _ => []
def insV (cn : Str) (ns : List Str) (ds : List D) : D := .dict ((.dict [], .str cn) :: zipD ns ds)
def idxS (f : Str) : List Str → Option Nat
  | [] => none
  | g :: r => if g = f then some 0 else (idxS f r).map (· + 1)
section
variable {K : PySem.W.Frag} {C : Rc} {F F' H H' : Hp} {f : Str} {v : V}
theorem look_idx : ∀ {fs : List (Str × V)} {ns : List Str} {j : Nat}, fs.map (·.1) = ns → idxS f ns = some j → fs.lookup f = (fs.map (·.2))[j]?
  | [], ns, j, e, h => by subst e; cases h
  | (g, x) :: fs, ns, j, e, h => by
    subst e
    rw [List.map_cons, idxS] at h
    by_cases q : g = f
    · rw [if_pos q] at h
      cases h
      rw [List.lookup_cons]
      simp [q]
    · rw [if_neg q] at h
      cases z : idxS f (fs.map (·.1)) with
      | none => rw [z] at h; cases h
      | some k =>
        rw [z] at h; cases h
        have := look_idx rfl z
        rw [List.lookup_cons, show (f == g) = false from by simp; exact fun e => q e.symm]
        simpa using this
theorem look_none : ∀ {fs : List (Str × V)}, f ∉ fs.map (·.1) → fs.lookup f = none
  | [], _ => rfl
  | (g, x) :: fs, h => by
    rw [List.map_cons, List.mem_cons] at h
    rw [List.lookup_cons, show (f == g) = false from by simp; exact fun e => h (.inl e)]
    exact look_none fun z => h (.inr z)
theorem put_idx : ∀ {fs : List (Str × V)} {ns : List Str} {j : Nat}, fs.map (·.1) = ns → idxS f ns = some j → putF f v fs = fs.set j (f, v)
  | [], ns, j, e, h => by subst e; cases h
  | (g, x) :: fs, ns, j, e, h => by
    subst e
    rw [List.map_cons, idxS] at h
    by_cases q : g = f
    · rw [if_pos q] at h
      cases h
      rw [putF, if_pos q, q]; rfl
    · rw [if_neg q] at h
      cases z : idxS f (fs.map (·.1)) with
      | none => rw [z] at h; cases h
      | some k =>
        rw [z] at h; cases h
        rw [putF, if_neg q, put_idx rfl z]; rfl
theorem put_none : ∀ {fs : List (Str × V)} {ns : List Str}, fs.map (·.1) = ns → idxS f ns = none → putF f v fs = fs ++ [(f, v)]
  | [], _, _, _ => rfl
  | (g, x) :: fs, ns, e, h => by
    subst e
    rw [List.map_cons, idxS] at h
    by_cases q : g = f
    · rw [if_pos q] at h; cases h
    · rw [if_neg q] at h
      have z : idxS f (fs.map (·.1)) = none := by
        cases z : idxS f (fs.map (·.1)) with
        | none => rfl
        | some k => rw [z] at h; cases h
      rw [putF, if_neg q, put_none rfl z]; rfl
theorem idx_lt : ∀ {ns : List Str} {j : Nat}, idxS f ns = some j → ns[j]? = some f
  | [], _, h => by cases h
  | g :: r, j, h => by
    rw [idxS] at h
    by_cases q : g = f
    · rw [if_pos q] at h; cases h; rw [q]; rfl
    · rw [if_neg q] at h
      cases z : idxS f r with
      | none => rw [z] at h; cases h
      | some k => rw [z] at h; cases h; simpa using idx_lt z
/-! ### frozen instances -/
theorem rpf_zip : ∀ {ns : List Str} {ds : List D} {fs : List (Str × V)}, ns.length = ds.length → RpF K C H fs (zipD ns ds) → fs.map (·.1) = ns ∧ RpA K C H (fs.map (·.2)) ds
  | [], [], _, _, .nil => ⟨rfl, .nil⟩
  | n :: ns, d :: ds, _, hl, .cons a b => by
    obtain ⟨e, r⟩ := rpf_zip (by simpa using hl) b
    exact ⟨by rw [List.map_cons, e], .cons a r⟩
  | [], _ :: _, _, hl, _ => by simp at hl
  | _ :: _, [], _, hl, _ => by simp at hl
theorem rpk_head : ∀ {fs : List (Key × V)} {kvs : List (D × D)}, RpK K C H fs kvs → ∀ p ∈ kvs, ∃ k, p.1 = keyD k
  | _, _, .nil, p, h => by cases h
  | _, _, .cons (k := k) a b, p, h => by
    rcases List.mem_cons.mp h with e | h
    · exact ⟨k, by rw [e]⟩
    · exact rpk_head b p h
theorem rp_ins {cn : Str} {ns : List Str} {ds : List D} (hl : ns.length = ds.length) (h : Rp K C H v (insV cn ns ds)) : ∃ a c dx fs, v = .ref a ∧ C.cl cn = some c ∧ H a = some (.ins c dx fs) ∧ fs.map (·.1) = ns ∧ RpA K C H (fs.map (·.2)) ds := by
  unfold insV at h
  cases h with
  | obj h0 h1 h2 =>
    obtain ⟨e, r⟩ := rpf_zip hl h2
    exact ⟨_, _, _, _, rfl, h0, h1, e, r⟩
  | dic h1 h2 =>
    obtain ⟨k, e⟩ := rpk_head h2 _ List.mem_cons_self
    cases k <;> cases e
/-! ### owned instances -/
theorem owf_zip : ∀ {ns : List Str} {ss : List Sh} {ds : List D} {fs : List (Str × V)} {fp : List Addr}, ns.length = ds.length → ns.length = ss.length → OwF K C F H (zipS ns ss) fs (zipD ns ds) fp → fs.map (·.1) = ns
  | [], [], [], _, _, _, _, .nil => rfl
  | n :: ns, s :: ss, d :: ds, _, _, hl, hl2, .cons a b _ => by rw [List.map_cons, owf_zip (by simpa using hl) (by simpa using hl2) b]
  | [], _ :: _, _, _, _, _, h, _ => by simp at h
  | _ :: _, [], _, _, _, _, h, _ => by simp at h
  | [], _, _ :: _, _, _, h, _, _ => by simp at h
  | _ :: _, _, [], _, _, h, _, _ => by simp at h
/-- a field, and another in its place, of another shape perhaps -/
theorem owf_focus : ∀ {ns : List Str} {ss : List Sh} {ds : List D} {fs : List (Str × V)} {fp : List Addr} {j : Nat} {s : Sh} {d : D}, ns.length = ds.length → ns.length = ss.length → OwF K C F H (zipS ns ss) fs (zipD ns ds) fp → ss[j]? = some s → ds[j]? = some d →
    ∃ (f : Str) (v : V) (fa fb : List Addr), ns[j]? = some f ∧ fs[j]? = some (f, v) ∧ Ow K C F H s v d fa ∧ (∀ a, a ∈ fp ↔ a ∈ fa ∨ a ∈ fb) ∧ (∀ a ∈ fa, a ∉ fb) ∧
      ∀ (F' H' : Hp) (s' : Sh) (v' : V) (d' : D) (fq : List Addr), Same F F' → (∀ a ∈ fb, H' a = H a) → Ow K C F' H' s' v' d' fq → (∀ a ∈ fq, a ∉ fb) → ∃ fr, (∀ a, a ∈ fr ↔ a ∈ fq ∨ a ∈ fb) ∧ OwF K C F' H' (zipS ns (ss.set j s')) (fs.set j (f, v')) (zipD ns (ds.set j d')) fr
  | [], [], _, _, _, _, _, _, h1, h2, _, e, _ => by simp at e
  | [], _ :: _, _, _, _, _, _, _, h1, h2, _, e, _ => by simp at h2
  | n :: ns, s0 :: ss, d0 :: ds, _, _, 0, s, d, h1, h2, .cons (fp := fa) (fq := fb) a b c, e1, e2 => by
    simp at e1 e2; subst e1 e2
    exact ⟨n, _, fa, fb, rfl, rfl, a, fun x => List.mem_append, c, fun F' H' s' v' d' fq f g w m => ⟨fq ++ fb, fun x => List.mem_append, .cons w (b.mono f g) m⟩⟩
  | n :: ns, s0 :: ss, d0 :: ds, _, _, j + 1, s, d, h1, h2, .cons (fp := fc) (fq := fd) a b c, e1, e2 => by
    obtain ⟨f0, v, fa, fb, q1, q2, q3, q4, q5, q6⟩ := owf_focus (j := j) (by simpa using h1) (by simpa using h2) b (by simpa using e1) (by simpa using e2)
    refine ⟨f0, v, fa, fc ++ fb, by simpa using q1, by simpa using q2, q3, fun x => ?_, fun x hx hy => ?_, fun F' H' s' v' d' fq f g w m => ?_⟩
    · simp only [List.mem_append, q4]
      constructor
      · rintro (h | h | h)
        · exact .inr (.inl h)
        · exact .inl h
        · exact .inr (.inr h)
      · rintro (h | h | h)
        · exact .inr (.inl h)
        · exact .inl h
        · exact .inr (.inr h)
    · rcases List.mem_append.mp hy with h | h
      · exact c x h ((q4 x).mpr (.inl hx))
      · exact q5 x hx h
    · obtain ⟨fr, r1, r2⟩ := q6 F' H' s' v' d' fq f (fun x hx => g x (mem_r hx)) w fun x hx hy => m x hx (mem_r hy)
      refine ⟨fc ++ fr, fun x => ?_, .cons (a.mono f fun x hx => g x (mem_l hx)) r2 fun x hx hy => ?_⟩
      · simp only [List.mem_append, r1]
        constructor
        · rintro (h | h | h)
          · exact .inr (.inl h)
          · exact .inl h
          · exact .inr (.inr h)
        · rintro (h | h | h)
          · exact .inr (.inl h)
          · exact .inl h
          · exact .inr (.inr h)
      · rcases (r1 x).mp hy with h | h
        · exact m x h (mem_l hx)
        · exact c x hx ((q4 x).mpr (.inr h))
  | _ :: _, [], _, _, _, _, _, _, _, h, _, _, _ => by simp at h
  | _ :: _, _ :: _, [], _, _, _, _, _, h, _, _, _, _ => by simp at h
/-- a further field -/
theorem owf_snoc {s : Sh} {d : D} {fq : List Addr} (w : Ow K C F H s v d fq) : ∀ {ns : List Str} {ss : List Sh} {ds : List D} {fs : List (Str × V)} {fp : List Addr}, ns.length = ds.length → ns.length = ss.length → OwF K C F H (zipS ns ss) fs (zipD ns ds) fp → (∀ a ∈ fp, a ∉ fq) →
    ∃ fr, (∀ a, a ∈ fr ↔ a ∈ fp ∨ a ∈ fq) ∧ OwF K C F H (zipS (ns ++ [f]) (ss ++ [s])) (fs ++ [(f, v)]) (zipD (ns ++ [f]) (ds ++ [d])) fr
  | [], [], [], _, _, _, _, .nil, _ => ⟨fq ++ [], by simp, .cons w .nil (by simp)⟩
  | n :: ns, s0 :: ss, d0 :: ds, _, _, h1, h2, .cons (fp := fa) (fq := fb) a b c, m => by
    obtain ⟨fr, r1, r2⟩ := owf_snoc w (by simpa using h1) (by simpa using h2) b fun x hx => m x (mem_r hx)
    refine ⟨fa ++ fr, fun x => ?_, .cons a r2 fun x hx hy => ?_⟩
    · simp only [List.mem_append, r1]
      constructor
      · rintro (h | h | h)
        · exact .inl (.inl h)
        · exact .inl (.inr h)
        · exact .inr h
      · rintro ((h | h) | h)
        · exact .inl h
        · exact .inr (.inl h)
        · exact .inr (.inr h)
    · rcases (r1 x).mp hy with h | h
      · exact c x hx h
      · exact m x (mem_l hx) h
  | [], _ :: _, _, _, _, _, h, _, _ => by simp at h
  | _ :: _, [], _, _, _, _, h, _, _ => by simp at h
  | [], _, _ :: _, _, _, h, _, _, _ => by simp at h
  | _ :: _, _, [], _, _, h, _, _, _ => by simp at h
theorem ow_ins {cn : Str} {ns : List Str} {ss : List Sh} {ds : List D} {fp : List Addr} (h : Ow K C F H (.ins cn (zipS ns ss)) v (insV cn ns ds) fp) : ∃ a c dx fs fq, v = .ref a ∧ C.cl cn = some c ∧ H a = some (.ins c dx fs) ∧ fp = a :: fq ∧ OwF K C F H (zipS ns ss) fs (zipD ns ds) fq ∧ a ∉ fq := by
  unfold insV at h
  cases h with
  | sc z _ => cases z
  | ins c h1 h2 h3 => exact ⟨_, _, _, _, _, rfl, c, h1, rfl, h2, h3⟩
end
end Tx

set_option Elab.async false
set_option linter.all false
set_option maxRecDepth 100000
set_option maxHeartbeats 4000000
/-! A18: fields that are read, methods that read, instances that are made. -/
namespace Tx
open PySem L2 PyProof.Rows En EnL

/-- what is told of a class: where it stands, and that it has no attributes of its own by these names -/
structure ClsI (K : PySem.W.Frag) (W : Vp) (cn : Str) (fl : List Str) : Prop where
  ex : ∃ C, W.rc.cl cn = some C ∧ Cls K C ∧ ∀ f ∈ fl, NoAttr K C f
section
variable {X : Cx} {W : Vp} {E : L2.St → XK} {ρ : Env} {s s' : Sh} {e : Expr} {pos : Pos} {i : Nat} {α β : Type} [En α] [En β] {cn f : Str} {ns fl : List Str} {ss : List Sh} {ds : List D} {j : Nat} {x : β} {r : Option V} {b0 : Bool}
/-- a field of what stands in a slot, frozen -/
theorem ve_fldD (c : ClsI X.K W cn fl) (hf : f ∈ fl) (hj : idxS f ns = some j) (h : PE X e (tVar i)) (hi : ρ i = .vl .fz (insV cn ns ds)) (hd : ds[j]? = some (en x)) (hl : ns.length = ds.length := by rfl) (hb : attributeBase e f X.env (eval e X.env) = eval e X.env := by rfl) :
    VE X W E ρ .frz (.Attribute e f pos) (.ok x) := (pe_fld h hb).wk fun σ H Q ⟨H0, F, k, q⟩ => by
  obtain ⟨fp, o1, _⟩ := k.sl
  obtain ⟨v, h1, _, h2⟩ := o1 i _ _ hi
  obtain ⟨a, c', dx, fs, rfl, hc, ho, hn, r2⟩ := rp_ins hl h2
  obtain ⟨v, q1, q2⟩ := r2.get hd
  obtain ⟨C, e1, cl, na⟩ := c.ex
  rw [e1] at hc; cases hc
  exact ⟨_, h1, a, _, dx, fs, v, rfl, k.sub _ _ ho, cl, na f hf, (look_idx hn hj).trans q1, okH q v H F [] (Same.refl H) (Ext.refl F H) k.sub (.fz q2) fun x hx => nomatch hx⟩
/-- .. of any instance -/
theorem ve_fld {m : R α} (get : α → β) (vs : α → List D) (c : ClsI X.K W cn fl) (hf : f ∈ fl) (hj : idxS f ns = some j) (h : VE X W E ρ .frz e m) (he : ∀ a, en a = insV cn ns (vs a)) (hd : ∀ a, (vs a)[j]? = some (en (get a))) (hl : ∀ a, ns.length = (vs a).length) (hb : attributeBase e f X.env (eval e X.env) = eval e X.env := by rfl) :
    VE X W E ρ .frz (.Attribute e f pos) (m.map get) := (pe_fld h hb).wk fun σ H Q ⟨H0, F, k, q⟩ => ⟨H0, F, k, (hd_map q).imp fun a q1 v H1 F1 fp s1 x1 f1 w1 _ => by
  have r1 := w1.toRp.2
  rw [he] at r1
  obtain ⟨a', c', dx, fs, rfl, hc, ho, hn, r2⟩ := rp_ins (hl a) r1
  obtain ⟨v, q3, q2⟩ := r2.get (hd a)
  obtain ⟨C, e1, cl, na⟩ := c.ex
  rw [e1] at hc; cases hc
  exact ⟨a', _, dx, fs, v, rfl, f1 _ _ ho, cl, na f hf, (look_idx hn hj).trans q3, q1 v H1 F1 [] s1 x1 f1 (.fz q2) fun x hx => nomatch hx⟩⟩
/-- a field of what a slot owns -/
theorem vr_fldD (c : ClsI X.K W cn fl) (hf : f ∈ fl) (hj : idxS f ns = some j) (h : PE X e (tVar i)) (hi : ρ i = .vl (.ow (.ins cn (zipS ns ss)) r) (insV cn ns ds)) (hd : ds[j]? = some (en x)) (hs : ss[j]? = some s) (hl : ns.length = ds.length := by rfl) (hl2 : ns.length = ss.length := by rfl) (hb : attributeBase e f X.env (eval e X.env) = eval e X.env := by rfl) :
    VR X W E ρ false s (.Attribute e f pos) (.ok x) := (pe_fld h hb).wk fun σ H Q ⟨H0, F, k, q⟩ => by
  obtain ⟨fp, o1, _⟩ := k.sl
  obtain ⟨v, h1, _, h2, h3⟩ := o1 i _ _ hi
  obtain ⟨a, c', dx, fs, fq, rfl, hc, ho, _, hw, _⟩ := ow_ins h2
  have hn := owf_zip hl hl2 hw
  obtain ⟨g, u, fa, fb, p1, p2, p3, _⟩ := owf_focus hl hl2 hw hs hd
  obtain ⟨C, e1, cl, na⟩ := c.ex
  rw [e1] at hc; cases hc
  have hu : (fs.map (·.2))[j]? = some u := by rw [List.getElem?_map, p2]; rfl
  exact ⟨_, h1, a, _, dx, fs, u, rfl, ho, cl, na f hf, (look_idx hn hj).trans hu, okH q u H F fa (Same.refl H) (Ext.refl F H) k.sub p3 fun z => nomatch z⟩
theorem vr_fldB (c : ClsI X.K W cn fl) (hf : f ∈ fl) (hj : idxS f ns = some j) (h : PE X e (tVar i)) (hi : ρ i = .vl (.bw (.ins cn (zipS ns ss)) r) (insV cn ns ds)) (hd : ds[j]? = some (en x)) (hs : ss[j]? = some s) (hl : ns.length = ds.length := by rfl) (hl2 : ns.length = ss.length := by rfl) (hb : attributeBase e f X.env (eval e X.env) = eval e X.env := by rfl) :
    VR X W E ρ b0 s (.Attribute e f pos) (.ok x) := (pe_fld h hb).wk fun σ H Q ⟨H0, F, k, q⟩ => by
  obtain ⟨fp, o1, _⟩ := k.sl
  obtain ⟨v, h1, _, h2, h3⟩ := o1 i _ _ hi
  obtain ⟨a, c', dx, fs, fq, rfl, hc, ho, efp, hw, _⟩ := ow_ins h2
  have hn := owf_zip hl hl2 hw
  obtain ⟨g, u, fa, fb, p1, p2, p3, p4, _⟩ := owf_focus hl hl2 hw hs hd
  obtain ⟨C, e1, cl, na⟩ := c.ex
  rw [e1] at hc; cases hc
  have hu : (fs.map (·.2))[j]? = some u := by rw [List.getElem?_map, p2]; rfl
  exact ⟨_, h1, a, _, dx, fs, u, rfl, ho, cl, na f hf, (look_idx hn hj).trans hu, okH q u H F fa (Same.refl H) (Ext.refl F H) k.sub p3 fun _ b hb => (h3 b (by rw [efp]; exact List.mem_cons_of_mem _ ((p4 b).mpr (.inl hb)))).2⟩
/-- an item of a list that may be read -/
theorem vr_ix {b : Expr} {m : R (List β)} {n : R Int} (ha : VR X W E ρ b0 (.lst s) e m) (hb : VE X W E ρ .frz b n) (hs : PlainIx b := by exact fun _ _ => rfl) : VR X W E ρ b0 s (.Subscript e b pos) (m.bind fun x => n.bind fun y => ixR x y) :=
  (pe_ix ix_list ha hb hs).wk fun σ H Q ⟨H0, F, k, q⟩ => ⟨H0, F, k, (hd_bind q).imp fun l q1 v H1 F1 fp s1 x1 f1 w1 n1 => ⟨H0, F1, k.grow s1 x1 f1, ((hd_bind q1).heap s1).imp fun j q2 u H2 F2 fq s2 x2 f2 w2 _ => by
    have ej := int_rp w2.toRp.2
    subst ej
    have w1' : Ow X.K W.rc F1 H1 (.lst s) v (.list (l.map en)) fp := w1
    cases w1' with
    | sc z _ => cases z
    | lst z1 z2 z3 =>
      rename_i p xs fx
      have len := z2.len
      rw [List.length_map] at len
      unfold ixR at q2
      cases hk : ixAt l.length j with
      | none => rw [hk] at q2; exact q2.elim
      | some kx =>
        rw [hk] at q2
        cases hx : l[kx]? with
        | none => simp only [hx] at q2; exact q2.elim
        | some y =>
          simp only [hx] at q2
          have e : (l.map en)[kx]? = some (en y) := by rw [List.getElem?_map, hx]; rfl
          obtain ⟨vc, fc, fd, y1, y2, y3, y4, y5⟩ := z2.focus e
          refine ⟨p, xs, j, vc, rfl, rfl, SqL.of (s2 _ _ z1), ?_, ?_⟩
          · show (ixN xs.length j).bind (fun j => xs[j]?) = some vc
            have : ixN xs.length j = some kx := by rw [len]; exact hk
            rw [this]; exact y1
          · refine okH q2 vc H2 F2 fc (s1.trans s2) (x1.trans s1 x2) f2 (y2.mono x2.up fun a ha => ?_) fun hb a ha => n1 hb a (List.mem_cons_of_mem _ ((y3 a).mpr (.inl ha)))
            obtain ⟨o, e⟩ := y2.live a ha
            exact (s2 a o e).trans e.symm⟩⟩
end
/-! ### methods and classes, called -/
/-- a method that reads -/
structure CalM {A β : Type} [EnL A] [En β] (P : Program) (w : World) (K : PySem.W.Frag) (mg : Str → Option Value) (base : Heap) (W : Vp) (cn nm : Str) (k : Nat) (f : A → R β) (s : Sh) : Prop where
  ex : ∃ (C fa : Addr) (fd : FuncData) (ps : List Str), W.rc.cl cn = some C ∧ Cls K C ∧ Meth K C nm fa ∧ Binds K fd ps [] ∧ FnG P w K mg base k fa fd ps (spT K W f s)
/-- a method that changes its own object (A is Unit), or an argument -/
structure CalI {A B β δ ε : Type} [EnL A] [EnL B] [En β] [En δ] [En ε] (P : Program) (w : World) (K : PySem.W.Frag) (mg : Str → Option Value) (base : Heap) (W : Vp) (cn nm : Str) (k : Nat) (s1 : Sh) (f : A → δ → B → R (β × ε)) (s s2 : Sh) : Prop where
  ex : ∃ (C fa : Addr) (fd : FuncData) (ps : List Str), W.rc.cl cn = some C ∧ Cls K C ∧ Meth K C nm fa ∧ Binds K fd ps [] ∧ FnG P w K mg base k fa fd ps (spI K W s1 f s s2)
/-- an instance without attributes -/
structure I0 (cn : Str) where
  mk ::
instance {cn : Str} : En (I0 cn) := ⟨fun _ => insV cn [] []⟩
/-- a class whose instances are made -/
structure CalK {B σ : Type} [EnL B] [En σ] (P : Program) (w : World) (K : PySem.W.Frag) (mg : Str → Option Value) (base : Heap) (W : Vp) (cn : Str) (k : Nat) (f : B → R σ) (ss : List (Str × Sh)) : Prop where
  ex : ∃ (C fa : Addr) (fd : FuncData) (ps : List Str), W.rc.cl cn = some C ∧ mg cn = some (.ref C) ∧ Mk K C fa ∧ Binds K fd ps [] ∧ FnG P w K mg base k fa fd ps (spI K W (.ins cn []) (fun (_ : Unit) (_ : I0 cn) (b : B) => (f b).map fun s => ((), s)) .frz (.ins cn ss))
def tMethS (C : Addr) (m : Str) (sp : Sp) (E : L2.St → XK) (ta : TE) (t : TA) : TE := fun σ H Q => ta σ H fun x H1 => ∃ a dx fs, x = .ref a ∧ H1 a = some (.ins C dx fs) ∧ fs.lookup m = none ∧ t σ H1 fun vs H2 => sp (x :: vs) H2 Q (E σ)
def tMakeS (C : Addr) (sp : Sp) (E : L2.St → XK) (t : TA) : TE := fun σ H Q => t σ H fun vs H1 => ∀ x dx, H1 x = none → H1 dx = none → dx ≠ x →
  sp (.ref x :: vs) (upd (upd H1 dx (.own x)) x (.ins C dx [])) (fun v H2 => v = .non ∧ Q (.ref x) H2) (E σ)
section
variable {X : Cx} {k : Nat} {f C : Addr} {fd : FuncData} {ps : List Str} {sp : Sp} {E : L2.St → XK} {x m : Str} {p pos apos : Pos} {e o : Expr} {es : List Expr} {t : TA} {ta : TE}
theorem pe_methG {pl : Sem Bool} (he : PE X o ta) (c : Cls X.K C) (hm : Meth X.K C m f) (F : FnG X.prog X.w X.K X.mg X.base k f fd ps sp) (hr : Rm k X.A) (hb : Binds X.K fd ps []) (hx : ∀ σ, PassesAt (L2.CX X.prog X.w) X σ (E σ)) (ha : PA X (e :: es) t)
    (hst : starEach (e :: es) X.env = (false, eval e X.env) :: starEach es X.env := by rfl) (hpl : (backTo pos (starEach es X.env)).any (·.1) = false := by rfl)
    (ht : eval (.Call (.Attribute o m apos) (e :: es) [] pos) X.env = (do
      let ov ← eval o X.env
      standAt apos.atName
      let (f, first) ← holding [ov] (getMethod ov m pl)
      callWith pos f first (backTo pos (starEach (e :: es) X.env)) (backToKw pos (keywordEach [] X.env))) := by rfl) :
    PE X (.Call (.Attribute o m apos) (e :: es) [] pos) (tMethS C m sp E ta t) := by
  refine ⟨fun pins s σ H Q I h => ?_⟩
  refine PySem.W.methodCall_KW (pl := pl) (thn (he.run pins s σ H _ I h) fun u s1 ⟨x, H1, I1, rx, a, dx, fs, ex, ea, l, q⟩ => ?_) ht
  subst ex
  obtain rfl : u = Value.ref a := rx
  refine getmeth_ok I1 ea c hm l ?_
  refine PySem.W.callWith_K (first := [.ref a]) (h₀ := X.base) I.ok.mod.kin hm.kp (thn (ha.run pos pins s1 σ H1 _ I1 q) fun us s2 ⟨vs, H2, I2, r, q2⟩ => ⟨I2.kIn, ?_⟩) hst hpl
  exact run_fnG (us := .ref a :: us) (vs := .ref a :: vs) F hr hb (hx σ) I2 (.cons rfl r) q2
theorem pe_meth0G {pl : Sem Bool} (he : PE X o ta) (c : Cls X.K C) (hm : Meth X.K C m f) (F : FnG X.prog X.w X.K X.mg X.base k f fd ps sp) (hr : Rm k X.A) (hb : Binds X.K fd ps []) (hx : ∀ σ, PassesAt (L2.CX X.prog X.w) X σ (E σ))
    (ht : eval (.Call (.Attribute o m apos) [] [] pos) X.env = (do
      let ov ← eval o X.env
      standAt apos.atName
      let (f, first) ← holding [ov] (getMethod ov m pl)
      callWith pos f first (backTo pos (starEach [] X.env)) (backToKw pos (keywordEach [] X.env))) := by rfl) :
    PE X (.Call (.Attribute o m apos) [] [] pos) (tMethS C m sp E ta tNil) := by
  refine ⟨fun pins s σ H Q I h => ?_⟩
  refine PySem.W.methodCall_KW (pl := pl) (thn (he.run pins s σ H _ I h) fun u s1 ⟨x, H1, I1, rx, a, dx, fs, ex, ea, l, q⟩ => ?_) ht
  subst ex
  obtain rfl : u = Value.ref a := rx
  refine getmeth_ok I1 ea c hm l ?_
  exact PySem.W.callWith_K0 (first := [.ref a]) I1.kIn hm.kp (run_fnG (us := [.ref a]) (vs := [.ref a]) F hr hb (hx σ) I1 (.cons rfl .nil) q)
theorem pe_makeG (M : Mk X.K C f) (F : FnG X.prog X.w X.K X.mg X.base k f fd ps sp) (hr : Rm (k + 1) X.A) (hg : Gl X x) (hm : X.mg x = some (.ref C)) (hb : Binds X.K fd ps []) (hx : ∀ σ, PassesAt (L2.CX X.prog X.w) X σ (E σ))
    (ha : PA X (e :: es) t) (hdb : (x == ("__debug__" : Str)) = false := by decide) (he : starEach (e :: es) X.env = (false, eval e X.env) :: starEach es X.env := by rfl) (hpl : (backTo pos (starEach es X.env)).any (·.1) = false := by rfl) :
    PE X (.Call (.Name x p) (e :: es) [] pos) (tMakeS C sp E t) := by
  refine ⟨fun pins s σ H Q I h => ?_⟩
  refine wpAny_Call_Name_kw (ld_glob I hg hm ?_ hdb)
  refine PySem.W.callWith_K (h₀ := X.base) I.ok.mod.kin M.kp (thn (ha.run pos pins s σ H _ I h) fun us s ⟨vs, H, I, r, h⟩ => ⟨I.kIn, ?_⟩) he hpl
  have hq := h (s.heap.objs.size + 1) s.heap.objs.size (I.hok.fresh (Nat.le_succ _)) (I.hok.fresh (Nat.le_refl _)) (Nat.ne_of_lt (Nat.lt_succ_self _))
  have I2 := Inv.made (C := C) I
  have r2 : Vals (V.ref (s.heap.objs.size + 1) :: vs) (Value.ref (s.heap.objs.size + 1) :: us) := .cons rfl r
  have hl : (Value.ref (s.heap.objs.size + 1) :: us).length = ps.length := by
    have e := r2.length
    rw [F.len _ _ _ _ hq] at e
    exact e.symm
  have bd := hb _ (Value.ref (s.heap.objs.size + 1) :: us) I2.kIn ((congrArg List.length (List.append_nil _)).trans hl)
  rw [List.append_nil] at bd
  refine wpAny_call (make_map (f := f) I.kIn M.makes M.init (beq_iff_eq.mp M.fn) (codeAny_mono (F.run _ X.stack _ _ ⟨Value.ref (s.heap.objs.size + 1) :: us, []⟩ (Value.ref (s.heap.objs.size + 1) :: us) _ _ _ ⟨hr.room.make C us [], hr.gds⟩
    (I2.env0.make C us []) bd r2 hq) fun r s' hq' => ?_))
  cases r with
  | error e => exact hx σ pins _ _ e s' I2 hq'
  | ok fl =>
    cases fl with
    | ret u =>
      obtain ⟨v, H', I3, rv, ev, q3⟩ := I2.after hq'
      subst ev
      exact ⟨rv, ⟨V.ref (s.heap.objs.size + 1), H', I3, rfl, q3⟩⟩
    | next => exact False.elim hq'
    | brk => exact False.elim hq'
    | cont => exact False.elim hq'
end
section
variable {X : Cx} {W : Vp} {E : L2.St → XK} {ρ : Env} {s : Sh} {A B β σ : Type} [EnL B] [En β] [En σ] {j k : Nat} {nm cn : Str} {p pos apos : Pos} {e o : Expr} {es : List Expr}
/-- o.m(e, ..) of a frozen object -/
theorem ve_meth {f : σ × B → R β} {m : R σ} {n : R B} {ns : List Str} (vs : σ → List D) (c : CalM X.prog X.w X.K X.mg X.base W cn nm j f s) (hr : Rm k X.A) (hx : ∀ σ, PassesAt (L2.CX X.prog X.w) X σ (E σ)) (ho : VE X W E ρ .frz o m) (ha : VA X W E ρ .frz (e :: es) n) (hs : ∀ x, en x = insV cn ns (vs x)) (hl : ∀ x, ns.length = (vs x).length) (hno : nm ∉ ns) (hj : j ≤ k := by decide)
    (hst : starEach (e :: es) X.env = (false, eval e X.env) :: starEach es X.env := by rfl) (hpl : (backTo pos (starEach es X.env)).any (·.1) = false := by rfl) {pl : Sem Bool}
    (ht : eval (.Call (.Attribute o nm apos) (e :: es) [] pos) X.env = (do
      let ov ← eval o X.env
      standAt apos.atName
      let (f, first) ← holding [ov] (getMethod ov nm pl)
      callWith pos f first (backTo pos (starEach (e :: es) X.env)) (backToKw pos (keywordEach [] X.env))) := by rfl) :
    VE X W E ρ s (.Call (.Attribute o nm apos) (e :: es) [] pos) (m.bind fun x => n.bind fun y => f (x, y)) := by
  obtain ⟨C, fa, fd, ps, hc, cl, hm, hb, F⟩ := c.ex
  exact (pe_methG (E := E) ho cl hm F (hr.mono hj) hb hx ha hst hpl ht).wk fun σ0 H Q ⟨H0, F0, kk, q⟩ => ⟨H0, F0, kk, (hd_bind q).imp fun x q1 v H1 F1 fp s1 x1 f1 w1 _ => by
    have r1 := w1.toRp.2
    have r0 := r1
    rw [hs] at r1
    obtain ⟨a', c', dx, fs, rfl, hc', ho', hn, r2⟩ := rp_ins (hl x) r1
    rw [hc] at hc'; cases hc'
    refine ⟨a', dx, fs, rfl, f1 _ _ ho', look_none (by rw [hn]; exact hno), H0, F1, kk.grow s1 x1 f1, ((hd_bind q1).heap s1).imp fun y q2 us H2 F2 fq s2 x2 f2 w2 _ => ?_⟩
    exact ⟨F2, (x, y), f2, .cons (r0.up x2.up) w2.toRp.2, (q2.heap (s1.trans s2)).imp fun d q => q.step (s1.trans s2) (x1.trans s1 x2)⟩⟩
theorem ve_meth0 {f : σ × Unit → R β} {m : R σ} {ns : List Str} (vs : σ → List D) (c : CalM X.prog X.w X.K X.mg X.base W cn nm j f s) (hr : Rm k X.A) (hx : ∀ σ, PassesAt (L2.CX X.prog X.w) X σ (E σ)) (ho : VE X W E ρ .frz o m) (hs : ∀ x, en x = insV cn ns (vs x)) (hl : ∀ x, ns.length = (vs x).length) (hno : nm ∉ ns) (hj : j ≤ k := by decide) {pl : Sem Bool}
    (ht : eval (.Call (.Attribute o nm apos) [] [] pos) X.env = (do
      let ov ← eval o X.env
      standAt apos.atName
      let (f, first) ← holding [ov] (getMethod ov nm pl)
      callWith pos f first (backTo pos (starEach [] X.env)) (backToKw pos (keywordEach [] X.env))) := by rfl) :
    VE X W E ρ s (.Call (.Attribute o nm apos) [] [] pos) (m.bind fun x => f (x, ())) := by
  obtain ⟨C, fa, fd, ps, hc, cl, hm, hb, F⟩ := c.ex
  exact (pe_meth0G (E := E) ho cl hm F (hr.mono hj) hb hx ht).wk fun σ0 H Q ⟨H0, F0, kk, q⟩ => ⟨H0, F0, kk, (hd_bind q).imp fun x q1 v H1 F1 fp s1 x1 f1 w1 _ => by
    have r1 := w1.toRp.2
    have r0 := r1
    rw [hs] at r1
    obtain ⟨a', c', dx, fs, rfl, hc', ho', hn, r2⟩ := rp_ins (hl x) r1
    rw [hc] at hc'; cases hc'
    refine ⟨a', dx, fs, rfl, f1 _ _ ho', look_none (by rw [hn]; exact hno), ?_⟩
    exact ⟨F1, (x, ()), f1, .cons r0 .nil, (q1.heap s1).imp fun d q => q.step s1 x1⟩⟩
/-- C(e, ..) -/
theorem ve_make {f : B → R σ} {n : R B} {ss : List (Str × Sh)} (c : CalK X.prog X.w X.K X.mg X.base W cn j f ss) (hr : Rm k X.A) (hx : ∀ σ, PassesAt (L2.CX X.prog X.w) X σ (E σ)) (ha : VA X W E ρ .frz (e :: es) n) (hj : j + 1 ≤ k := by decide) (hg : Gl X cn := by rfl)
    (hdb : (cn == ("__debug__" : Str)) = false := by decide) (he : starEach (e :: es) X.env = (false, eval e X.env) :: starEach es X.env := by rfl) (hpl : (backTo pos (starEach es X.env)).any (·.1) = false := by rfl) :
    VE X W E ρ (.ins cn ss) (.Call (.Name cn p) (e :: es) [] pos) (n.bind f) := by
  obtain ⟨C, fa, fd, ps, hc, hmg, M, hb, F⟩ := c.ex
  exact (pe_makeG (E := E) M F (hr.mono hj) hg hmg hb hx ha hdb he hpl).wk fun σ0 H Q ⟨H0, F0, kk, q⟩ => ⟨H0, F0, kk, (hd_bind q).imp fun y q1 us H1 F1 fp s1 x1 f1 w1 _ => by
    intro x dx nx ndx ne
    let H2 : Hp := upd (upd H1 dx (.own x)) x (.ins C dx [])
    have up12 : Same H1 (hid H2 [x]) := fun a o e => by
      have na : a ≠ x := fun z => by rw [z, nx] at e; cases e
      rw [hid_out (by simpa using na)]
      show upd (upd H1 dx (.own x)) x (.ins C dx []) a = some o
      rw [upd_ne na, upd_ne (fun z => by rw [z, ndx] at e; cases e)]
      exact e
    have F1x : F1 x = none := none_back f1 nx
    have sF : Same F1 H2 := fun a o e => by
      have := up12 a o (f1 a o e)
      rw [hid_out (fun z => by rw [List.mem_singleton.mp z, F1x] at e; cases e)] at this
      exact this
    have z1 : H2 x = some (.ins C dx []) := upd_same
    refine ⟨F1, [], .ref x, us, (), I0.mk, y, [x], rfl, sF, .ins hc z1 .nil (by simp), fun a ha => by rw [List.mem_singleton.mp ha]; exact F1x, .nil, w1.toRp.2, hd_unmap ?_⟩
    refine (q1.heap (s1.trans up12)).imp fun d q2 v H3 F3 fp3 fr s3 x3 f3 wv wr n3 n4 _ => ?_
    have ev : v = .non := by
      have r := wv.toRp.2
      have r : Rp X.K W.rc F3 v .none := r
      cases r; rfl
    refine ⟨ev, ?_⟩
    have wr : Ow X.K W.rc F3 H3 (.ins cn ss) (.ref x) (en d) fr := wr
    exact q2 (.ref x) H3 F3 fr ((s1.trans up12).trans s3) ((x1.trans (s1.trans up12) x3)) f3 wr fun a ha => ⟨none_back (s1.trans up12) (n4 a ha).1, (n4 a ha).2⟩⟩
end
end Tx

set_option Elab.async false
set_option linter.all false
set_option maxRecDepth 100000
set_option maxHeartbeats 4000000
/-! A19: methods that change their object, fields that are stored, bodies of such defs. -/
namespace Tx
open PySem L2 PyProof.Rows En EnL

section
variable {X : Cx} {W : Vp} {E : L2.St → XK} {ρ : Env} {s s1 s2 s' : Sh} {e o : Expr} {es : List Expr} {p pos pos' apos cpos : Pos} {i : Nat} {B β β' δ ε α γ : Type} [EnL B] [En β'] [En δ] [En ε] [En α] [En γ] {cn nm f : Str} {ns fl : List Str} {ss : List Sh} {ds : List D} {j k : Nat} {r : Option V} {out : β → Out} {rest : List Stmt}
/-- o.m(e, ..) as a statement: the object of slot i is changed -/
theorem vb_methI {g : Unit → δ → B → R (β' × ε)} {n : R B} {m' : R ε} {kk : ε → R β} {z : δ} (c : CalI X.prog X.w X.K X.mg X.base W cn nm j (.ins cn (zipS ns ss)) g .frz s2) (hr : Rm k X.A) (hx : ∀ σ, PassesAt (L2.CX X.prog X.w) X σ (E σ)) (hi : ρ i = .vl (.ow (.ins cn (zipS ns ss)) r) (en z)) (ho : PE X o (tVar i)) (ha : VA X W E ρ .frz (e :: es) n)
    (hz : en z = insV cn ns ds) (hl : ns.length = ds.length) (hl2 : ns.length = ss.length) (hno : nm ∉ ns) (q : (n.bind fun y => (g () z y).bind fun p => .ok p.2) = m') (hrest : ∀ w : ε, VB X W E (se ρ i (.vl (.ow s2 r) (en w))) rest (kk w) out) (hj : j ≤ k := by decide)
    (hst : starEach (e :: es) X.env = (false, eval e X.env) :: starEach es X.env := by rfl) (hpl : (backTo pos (starEach es X.env)).any (·.1) = false := by rfl) {pl : Sem Bool}
    (ht : eval (.Call (.Attribute o nm apos) (e :: es) [] pos) X.env = (do
      let ov ← eval o X.env
      standAt apos.atName
      let (f, first) ← holding [ov] (getMethod ov nm pl)
      callWith pos f first (backTo pos (starEach (e :: es) X.env)) (backToKw pos (keywordEach [] X.env))) := by rfl)
    (hsw : swapsWith (.Call (.Attribute o nm apos) (e :: es) [] pos) none pos'.line X.env = pure false := by rfl) :
    VB X W E ρ (.Expr (.Call (.Attribute o nm apos) (e :: es) [] pos) pos' :: rest) (m'.bind kk) out := by
  obtain ⟨C, fa, fd, ps, hc, cl, hm, hb, Fg⟩ := c.ex
  subst q
  simp only [R.bind_assoc, R.okb]
  refine (pss_cons (ps_expr (pe_methG (E := E) ho cl hm Fg (hr.mono hj) hb hx ha hst hpl ht) hsw) (pss_any hrest)).wk fun De σ H ⟨H0, F0, F, k0, x, q⟩ => ?_
  obtain ⟨v, fp, ow⟩ := k0.own hi
  have wi := ow.ow
  rw [hz] at wi
  obtain ⟨a, c', dx, fs, fq, ev, hc', ho', efp, hw, na⟩ := ow_ins wi
  subst ev
  rw [hc] at hc'; cases hc'
  have hn := owf_zip hl hl2 hw
  refine ⟨_, ow.at_, a, dx, fs, rfl, ho', look_none (by rw [hn]; exact hno), H0, F, k0, ((hds_bind q).hd σ k0.same).imp fun y q1 us H1 F1 fp1 s1' x1 f1 w1 _ => ?_⟩
  have o1 := ow.up s1' x1 f1
  have sH : Same H0 (hid H1 fp) := hid_same (k0.same.trans s1') fun b hb => (ow.fre b hb).2
  refine ⟨F1, [], .ref a, us, (), z, y, fp, rfl, f1, o1.ow, fun b hb => (o1.fre b hb).1, .nil, w1.toRp.2, ?_⟩
  refine ((hds_bind q1).hd σ sH).imp fun pr q2 v' H' F' fr fr2 s3 x3 f3 wv wz nv nz nd => ?_
  exact ⟨pr.2, H0, F0, F', o1.put F1 H1 F' H' s2 (en pr.2) fr2 (Same.refl H1) (Ext.refl F1 H1) f1 s3 f3 x3 wz nz, (x.trans k0.same x1).trans sH x3, q2⟩
/-- o.m() -/
theorem vb_methI0 {g : Unit → δ → Unit → R (β' × ε)} {m' : R ε} {kk : ε → R β} {z : δ} (c : CalI X.prog X.w X.K X.mg X.base W cn nm j (.ins cn (zipS ns ss)) g .frz s2) (hr : Rm k X.A) (hx : ∀ σ, PassesAt (L2.CX X.prog X.w) X σ (E σ)) (hi : ρ i = .vl (.ow (.ins cn (zipS ns ss)) r) (en z)) (ho : PE X o (tVar i))
    (hz : en z = insV cn ns ds) (hl : ns.length = ds.length) (hl2 : ns.length = ss.length) (hno : nm ∉ ns) (q : ((g () z ()).bind fun p => .ok p.2) = m') (hrest : ∀ w : ε, VB X W E (se ρ i (.vl (.ow s2 r) (en w))) rest (kk w) out) (hj : j ≤ k := by decide) {pl : Sem Bool}
    (ht : eval (.Call (.Attribute o nm apos) [] [] pos) X.env = (do
      let ov ← eval o X.env
      standAt apos.atName
      let (f, first) ← holding [ov] (getMethod ov nm pl)
      callWith pos f first (backTo pos (starEach [] X.env)) (backToKw pos (keywordEach [] X.env))) := by rfl)
    (hsw : swapsWith (.Call (.Attribute o nm apos) [] [] pos) none pos'.line X.env = pure false := by rfl) :
    VB X W E ρ (.Expr (.Call (.Attribute o nm apos) [] [] pos) pos' :: rest) (m'.bind kk) out := by
  obtain ⟨C, fa, fd, ps, hc, cl, hm, hb, Fg⟩ := c.ex
  subst q
  simp only [R.bind_assoc, R.okb]
  refine (pss_cons (ps_expr (pe_meth0G (E := E) ho cl hm Fg (hr.mono hj) hb hx ht) hsw) (pss_any hrest)).wk fun De σ H ⟨H0, F0, F, k0, x, q⟩ => ?_
  obtain ⟨v, fp, ow⟩ := k0.own hi
  have wi := ow.ow
  rw [hz] at wi
  obtain ⟨a, c', dx, fs, fq, ev, hc', ho', efp, hw, na⟩ := ow_ins wi
  subst ev
  rw [hc] at hc'; cases hc'
  have hn := owf_zip hl hl2 hw
  refine ⟨_, ow.at_, a, dx, fs, rfl, ho', look_none (by rw [hn]; exact hno), ?_⟩
  have sH : Same H0 (hid H fp) := hid_same k0.same fun b hb => (ow.fre b hb).2
  refine ⟨F, [], .ref a, [], (), z, (), fp, rfl, k0.sub, ow.ow, fun b hb => (ow.fre b hb).1, .nil, .nil, ?_⟩
  refine ((hds_bind q).hd σ sH).imp fun pr q2 v' H' F' fr fr2 s3 x3 f3 wv wz nv nz nd => ?_
  exact ⟨pr.2, H0, F0, F', ow.put F H F' H' s2 (en pr.2) fr2 (Same.refl H) (Ext.refl F H) k0.sub s3 f3 x3 wz nz, x.trans sH x3, q2⟩
/-- o.m(x, e, ..) as a statement: o is frozen, x stands in slot i and is changed -/
theorem vb_methA {σ : Type} [En σ] {g : σ × Unit → δ → B → R (β' × ε)} {mo : R σ} {n : R B} {m' : R ε} {kk : ε → R β} {z : δ} {ex : Expr} (vs : σ → List D) (c : CalI X.prog X.w X.K X.mg X.base W cn nm j s1 g .frz s2) (hr : Rm k X.A) (hx : ∀ σ, PassesAt (L2.CX X.prog X.w) X σ (E σ)) (hi : ρ i = .vl (.ow s1 r) (en z)) (ho : VE X W E ρ .frz o mo) (hex : PE X ex (tVar i)) (ha : VA X W E ρ .frz es n)
    (hs : ∀ x, en x = insV cn ns (vs x)) (hl : ∀ x, ns.length = (vs x).length) (hno : nm ∉ ns) (q : (mo.bind fun x => n.bind fun y => (g (x, ()) z y).bind fun p => .ok p.2) = m') (hrest : ∀ w : ε, VB X W E (se ρ i (.vl (.ow s2 r) (en w))) rest (kk w) out) (hj : j ≤ k := by decide)
    (hst : starEach (ex :: es) X.env = (false, eval ex X.env) :: starEach es X.env := by rfl) (hpl : (backTo pos (starEach es X.env)).any (·.1) = false := by rfl) {pl : Sem Bool}
    (ht : eval (.Call (.Attribute o nm apos) (ex :: es) [] pos) X.env = (do
      let ov ← eval o X.env
      standAt apos.atName
      let (f, first) ← holding [ov] (getMethod ov nm pl)
      callWith pos f first (backTo pos (starEach (ex :: es) X.env)) (backToKw pos (keywordEach [] X.env))) := by rfl)
    (hsw : swapsWith (.Call (.Attribute o nm apos) (ex :: es) [] pos) none pos'.line X.env = pure false := by rfl) :
    VB X W E ρ (.Expr (.Call (.Attribute o nm apos) (ex :: es) [] pos) pos' :: rest) (m'.bind kk) out := by
  obtain ⟨C, fa, fd, ps, hc, cl, hm, hb, Fg⟩ := c.ex
  subst q
  simp only [R.bind_assoc, R.okb]
  refine (pss_cons (ps_expr (pe_methG (E := E) ho cl hm Fg (hr.mono hj) hb hx (pa_cons hex ha hst) hst hpl ht) hsw) (pss_any hrest)).wk fun De σ0 H ⟨H0, F0, F, k0, x, q⟩ => ?_
  refine ⟨H0, F, k0, ((hds_bind q).hd σ0 k0.same).imp fun y q1 u H1 F1 fp1 s1' x1 f1 w1 _ => ?_⟩
  have r1 := w1.toRp.2
  have r0 := r1
  rw [hs] at r1
  obtain ⟨a, c', dx, fs, ev, hc', ho', hn, r2⟩ := rp_ins (hl y) r1
  subst ev
  rw [hc] at hc'; cases hc'
  have k1 := k0.grow s1' x1 f1
  obtain ⟨v, fp, ow⟩ := k1.own hi
  refine ⟨a, dx, fs, rfl, f1 _ _ ho', look_none (by rw [hn]; exact hno), v, ow.at_, H0, F1, k1, ((hds_bind q1).hd σ0 k1.same).imp fun w q2 us H2 F2 fp2 s2' x2 f2 w2 _ => ?_⟩
  have o1 := ow.up s2' x2 f2
  have sH : Same H0 (hid H2 fp) := hid_same (k1.same.trans s2') fun b hb => (ow.fre b hb).2
  refine ⟨F2, [.ref a], v, us, (y, ()), z, w, fp, rfl, f2, o1.ow, fun b hb => (o1.fre b hb).1, .cons (r0.up x2.up) .nil, w2.toRp.2, ?_⟩
  refine ((hds_bind q2).hd σ0 sH).imp fun pr q3 v' H' F' fr fr2 s3 x3 f3 wv wz nv nz nd => ?_
  exact ⟨pr.2, H0, F0, F', o1.put F2 H2 F' H' s2 (en pr.2) fr2 (Same.refl H2) (Ext.refl F2 H2) f2 s3 f3 x3 wz nz, ((x.trans k0.same x1).trans k1.same x2).trans sH x3, q3⟩
/-! ### o.f = e -/
theorem fld_put {H0 F H F1 H1 : Hp} {L : Nat} {σ : L2.St} {a C dx : Addr} {fs : List (Str × V)} {fp fq fr : List Addr} {y : V} {d d' : D} (k0 : EnvS X.K W.rc H0 F H L σ ρ) (o : Own X.K W.rc H0 F H L σ ρ i s1 r d (.ref a) fp) (s1' : Same H H1) (x1 : Ext F H F1) (f1 : Same F1 H1) (ho : HO)
    (ha : a ∈ fp) (w : Ow X.K W.rc F1 (upd H1 a ho) s2 (.ref a) d' fr) (hfr : ∀ b ∈ fr, b ∈ fp ∨ (H b = none ∧ F1 b = none)) : EnvS X.K W.rc H0 F1 (upd H1 a ho) L σ (se ρ i (.vl (.ow s2 r) d')) := by
  have nF : ∀ b ∈ fp, F1 b = none := fun b hb => by
    obtain ⟨u, e⟩ := o.ow.live b hb
    exact x1.out e (o.fre b hb).1
  refine o.put F H F1 (upd H1 a ho) s2 d' fr (Same.refl H) (Ext.refl F H) k0.sub (fun b u e => ?_) (fun b u e => ?_) ⟨x1.up, fun b u e => ?_⟩ w fun b hb => ?_
  · by_cases y : b ∈ fp
    · rw [hid_in y] at e; cases e
    · rw [hid_out y] at e
      rw [upd_ne fun z => y (by rw [z]; exact ha)]
      exact s1' b u e
  · rw [upd_ne fun z => by rw [z, nF a ha] at e; cases e]
    exact f1 b u e
  · refine (x1.new b u e).imp id fun n => ?_
    by_cases y : b ∈ fp
    · exact hid_in y
    · rw [hid_out y]; exact n
  · rcases hfr b hb with h | h
    · exact ⟨hid_in h, nF b h⟩
    · refine ⟨?_, h.2⟩
      by_cases y : b ∈ fp
      · exact hid_in y
      · rw [hid_out y]; exact h.1
/-- a field that is there -/
theorem vb_fldX {m : R α} {kk : α → R β} {dj : D} {sj : Sh} (c : ClsI X.K W cn fl) (hf : f ∈ fl) (hj : idxS f ns = some j) (h : PE X o (tVar i)) (hi : ρ i = .vl (.ow (.ins cn (zipS ns ss)) r) (insV cn ns ds)) (hd : ds[j]? = some dj) (hs : ss[j]? = some sj) (he : VE X W E ρ s2 e m)
    (hrest : ∀ x, VB X W E (se ρ i (.vl (.ow (.ins cn (zipS ns (ss.set j s2))) r) (insV cn ns (ds.set j (en x))))) rest (kk x) out) (hl : ns.length = ds.length := by rfl) (hl2 : ns.length = ss.length := by rfl) (hn : ns.length < 1000 := by decide) (hsw : swapsWith e (some (.Attribute o f pos')) pos.line X.env = pure false := by rfl) :
    VB X W E ρ (.Assign [.Attribute o f pos'] e pos :: rest) (m.bind kk) out := (pss_cons (ps_fld h he hsw) (pss_any hrest)).wk fun De σ H ⟨H0, F0, F, k0, x, q⟩ => by
  refine ⟨H0, F, k0, ((hds_bind q).hd σ k0.same).imp fun y q1 u H1 F1 fq s1' x1 f1 w1 n1 => ?_⟩
  obtain ⟨v, fp, ow⟩ := k0.own hi
  obtain ⟨a, c', dx, fs, fz, ev, hc', ho', efp, hw, na⟩ := ow_ins ow.ow
  subst ev
  have hnm := owf_zip hl hl2 hw
  obtain ⟨C, e1, cl, nat⟩ := c.ex
  rw [e1] at hc'; cases hc'
  have lf : fs.length = ns.length := by rw [← hnm, List.length_map]
  refine ⟨_, ow.at_, a, _, dx, fs, rfl, s1' _ _ ho', cl, nat f hf, by omega, y, H0, F0, F1, ?_, x.trans k0.same x1, q1⟩
  obtain ⟨g, v0, fa, fb, p1, p2, p3, p4, p5, p6⟩ := owf_focus hl hl2 hw hs hd
  have eg : g = f := by have := idx_lt hj; rw [p1] at this; cases this; rfl
  subst eg
  have nq : ∀ b ∈ fq, b ≠ a ∧ b ∉ fz := fun b hb => by
    have hb' := (n1 b hb).1
    refine ⟨(fun z => by rw [z, ho'] at hb'; cases hb'), fun z => ?_⟩
    obtain ⟨o', e'⟩ := ow.ow.live b (by rw [efp]; exact List.mem_cons_of_mem _ z)
    rw [hb'] at e'; cases e'
  have keep : ∀ b ∈ fz, upd H1 a (.ins c' dx (putF g u fs)) b = H b := fun b hb => by
    rw [upd_ne fun z => by rw [z] at hb; exact na hb]
    obtain ⟨o', e'⟩ := ow.ow.live b (by rw [efp]; exact List.mem_cons_of_mem _ hb)
    exact (s1' b o' e').trans e'.symm
  obtain ⟨fr, r1, r2⟩ := p6 F1 (upd H1 a (.ins c' dx (putF g u fs))) s2 u (en y) fq x1.up (fun b hb => keep b ((p4 b).mpr (.inr hb))) (w1.mono (Same.refl F1) fun b hb => upd_ne (nq b hb).1) fun b hb hc => (nq b hb).2 ((p4 b).mpr (.inr hc))
  have nr : a ∉ fr := fun hr => by
    rcases (r1 a).mp hr with h | h
    · exact (nq a h).1 rfl
    · exact na ((p4 a).mpr (.inr h))
  refine fld_put (C := c') (fs := fs) (fq := fq) (y := u) (dx := dx) k0 ow s1' x1 f1 (.ins c' dx (putF g u fs)) (by rw [efp]; exact List.mem_cons_self) (fr := a :: fr) ?_ fun b hb => ?_
  · exact .ins e1 upd_same (by rw [put_idx hnm hj]; rw [put_idx hnm hj] at r2; exact r2) nr
  · rcases List.mem_cons.mp hb with e | hb
    · exact .inl (by rw [efp, e]; exact List.mem_cons_self)
    · rcases (r1 b).mp hb with h | h
      · exact .inr (n1 b h)
      · exact .inl (by rw [efp]; exact List.mem_cons_of_mem _ ((p4 b).mpr (.inr h)))
/-- a new field -/
theorem vb_fldN {m : R α} {kk : α → R β} (c : ClsI X.K W cn fl) (hf : f ∈ fl) (hj : idxS f ns = none) (h : PE X o (tVar i)) (hi : ρ i = .vl (.ow (.ins cn (zipS ns ss)) r) (insV cn ns ds)) (he : VE X W E ρ s2 e m)
    (hrest : ∀ x, VB X W E (se ρ i (.vl (.ow (.ins cn (zipS (ns ++ [f]) (ss ++ [s2]))) r) (insV cn (ns ++ [f]) (ds ++ [en x])))) rest (kk x) out) (hl : ns.length = ds.length := by rfl) (hl2 : ns.length = ss.length := by rfl) (hn : ns.length < 1000 := by decide) (hsw : swapsWith e (some (.Attribute o f pos')) pos.line X.env = pure false := by rfl) :
    VB X W E ρ (.Assign [.Attribute o f pos'] e pos :: rest) (m.bind kk) out := (pss_cons (ps_fld h he hsw) (pss_any hrest)).wk fun De σ H ⟨H0, F0, F, k0, x, q⟩ => by
  refine ⟨H0, F, k0, ((hds_bind q).hd σ k0.same).imp fun y q1 u H1 F1 fq s1' x1 f1 w1 n1 => ?_⟩
  obtain ⟨v, fp, ow⟩ := k0.own hi
  obtain ⟨a, c', dx, fs, fz, ev, hc', ho', efp, hw, na⟩ := ow_ins ow.ow
  subst ev
  have hnm := owf_zip hl hl2 hw
  obtain ⟨C, e1, cl, nat⟩ := c.ex
  rw [e1] at hc'; cases hc'
  have lf : fs.length = ns.length := by rw [← hnm, List.length_map]
  refine ⟨_, ow.at_, a, _, dx, fs, rfl, s1' _ _ ho', cl, nat f hf, by omega, y, H0, F0, F1, ?_, x.trans k0.same x1, q1⟩
  have nq : ∀ b ∈ fq, b ≠ a ∧ b ∉ fz := fun b hb => by
    have hb' := (n1 b hb).1
    refine ⟨(fun z => by rw [z, ho'] at hb'; cases hb'), fun z => ?_⟩
    obtain ⟨o', e'⟩ := ow.ow.live b (by rw [efp]; exact List.mem_cons_of_mem _ z)
    rw [hb'] at e'; cases e'
  have keep : ∀ b ∈ fz, upd H1 a (.ins c' dx (putF f u fs)) b = H b := fun b hb => by
    rw [upd_ne fun z => by rw [z] at hb; exact na hb]
    obtain ⟨o', e'⟩ := ow.ow.live b (by rw [efp]; exact List.mem_cons_of_mem _ hb)
    exact (s1' b o' e').trans e'.symm
  obtain ⟨fr, r1, r2⟩ := owf_snoc (f := f) (w1.mono (H' := upd H1 a (.ins c' dx (putF f u fs))) (Same.refl F1) fun b hb => upd_ne (nq b hb).1) hl hl2 (hw.mono x1.up keep) fun b hb hc => (nq b hc).2 hb
  have nr : a ∉ fr := fun hr => by
    rcases (r1 a).mp hr with h | h
    · exact na h
    · exact (nq a h).1 rfl
  refine fld_put (C := c') (fs := fs) (fq := fq) (y := u) (dx := dx) k0 ow s1' x1 f1 (.ins c' dx (putF f u fs)) (by rw [efp]; exact List.mem_cons_self) (fr := a :: fr) ?_ fun b hb => ?_
  · exact .ins e1 upd_same (by rw [put_none hnm hj]; rw [put_none hnm hj] at r2; exact r2) nr
  · rcases List.mem_cons.mp hb with e | hb
    · exact .inl (by rw [efp, e]; exact List.mem_cons_self)
    · rcases (r1 b).mp hb with h | h
      · exact .inl (by rw [efp]; exact List.mem_cons_of_mem _ h)
      · exact .inr (n1 b h)
/-! ### a field as a place -/
theorem vp_fld (G : γ → D) {x : γ} {sj : Sh} (c : ClsI X.K W cn fl) (hf : f ∈ fl) (hj : idxS f ns = some j) (h : PE X e (tVar i)) (hG : ∀ z, G z = insV cn ns (ds.set j (en z))) (hd : ds[j]? = some (en x)) (hs : ss[j]? = some sj) (hl : ns.length = ds.length := by rfl) (hl2 : ns.length = ss.length := by rfl) (hb : attributeBase e f X.env (eval e X.env) = eval e X.env := by rfl) :
    @VP γ γ ⟨G⟩ _ X W E ρ i (.ins cn (zipS ns ss)) r x sj (.Attribute e f pos) (.ok (x, fun z => z)) := by
  have hx : G x = insV cn ns ds := by
    rw [hG]
    congr 1
    apply List.ext_getElem?
    intro q
    by_cases hq : q = j
    · subst hq; rw [List.getElem?_set_self (List.getElem?_eq_some_iff.mp hd).1, hd]
    · rw [List.getElem?_set_ne (Ne.symm hq)]
  refine (pe_fld h hb).wk fun σ H Q ⟨H0, F, k, v, fp, o, q⟩ => ?_
  have w : Ow X.K W.rc F H (.ins cn (zipS ns ss)) v (G x) fp := o.ow
  rw [hx] at w
  obtain ⟨a, c', dx, fs, fz, ev, hc', ho', efp, hw, na⟩ := ow_ins w
  subst ev
  have hnm := owf_zip hl hl2 hw
  obtain ⟨C, e1, cl, nat⟩ := c.ex
  rw [e1] at hc'; cases hc'
  obtain ⟨g, u, fa, fb, p1, p2, p3, p4, p5, p6⟩ := owf_focus hl hl2 hw hs hd
  have hu : (fs.map (·.2))[j]? = some u := by rw [List.getElem?_map, p2]; rfl
  refine ⟨_, o.at_, a, _, dx, fs, u, rfl, ho', cl, nat f hf, (look_idx hnm hj).trans hu, okH q u fa H F (Same.refl H) (Ext.refl F H) k.sub ⟨p3, a :: fb, fun b => ?_, fun b hb hc => ?_, fun F' H' z fq f' g' w' m' => ?_⟩⟩
  · rw [efp, List.mem_cons, List.mem_cons, p4]
    constructor
    · rintro (h | h | h)
      · exact .inr (.inl h)
      · exact .inl h
      · exact .inr (.inr h)
    · rintro (h | h | h)
      · exact .inr (.inl h)
      · exact .inl h
      · exact .inr (.inr h)
  · rcases List.mem_cons.mp hc with e | hc
    · exact na ((p4 a).mpr (.inl (e ▸ hb)))
    · exact p5 b hb hc
  · obtain ⟨fr, r1, r2⟩ := p6 F' H' sj u (en z) fq f' (fun b hb => g' b (List.mem_cons_of_mem _ hb)) w' fun b hb hc => m' b hb (List.mem_cons_of_mem _ hc)
    have es' : ss.set j sj = ss := by
      apply List.ext_getElem?
      intro q
      by_cases hq : q = j
      · subst hq; rw [List.getElem?_set_self (List.getElem?_eq_some_iff.mp hs).1, hs]
      · rw [List.getElem?_set_ne (Ne.symm hq)]
    have ef' : fs.set j (g, u) = fs := by
      apply List.ext_getElem?
      intro q
      by_cases hq : q = j
      · subst hq; rw [List.getElem?_set_self (List.getElem?_eq_some_iff.mp p2).1, p2]
      · rw [List.getElem?_set_ne (Ne.symm hq)]
    rw [es', ef'] at r2
    have nr : a ∉ fr := fun hr => by
      rcases (r1 a).mp hr with h | h
      · exact m' a h List.mem_cons_self
      · exact na ((p4 a).mpr (.inr h))
    refine ⟨a :: fr, fun b => ?_, ?_⟩
    · rw [List.mem_cons, List.mem_cons, r1]
      constructor
      · rintro (h | h | h)
        · exact .inr (.inl h)
        · exact .inl h
        · exact .inr (.inr h)
      · rintro (h | h | h)
        · exact .inr (.inl h)
        · exact .inl h
        · exact .inr (.inr h)
    · show Ow X.K W.rc F' H' (.ins cn (zipS ns ss)) (.ref a) (G z) (a :: fr)
      rw [hG]
      exact .ins e1 ((g' a List.mem_cons_self).trans ho') r2 nr
end
section
variable {X : Cx} {W : Vp} {E : L2.St → XK} {ρ : Env} {s s2 : Sh} {i : Nat} {r : Option V} {α δ β : Type} [En δ] {out : β → Out} {st : Stmt} {rest : List Stmt}
theorem tb_appF (G : α → D) {a : α} {mp : R (List δ × (List δ → α))} {me : R δ} {m' : R α} {k : α → R β} (h : PS X st (tDrop (tBM X.K "list" rAppend (@tP α (List δ) ⟨G⟩ _ X.K W E X.N.length ρ i s r a (.lst s2) mp) (tCons (tE X.K W E X.N.length ρ s2 me) tNil)))) (q : (mp.bind fun p => me.bind fun x => (appR p.1 x).bind fun c => .ok (p.2 c)) = m') (hr : ∀ z : α, VB X W E (se ρ i (.vl (.ow s r) (G z))) rest (k z) out) (hi : ρ i = .vl (.ow s r) (G a) := by rfl) :
    VB X W E ρ (st :: rest) (m'.bind k) out := @tb_app X W E ρ s s2 i r α δ β ⟨G⟩ _ a out st rest mp me m' k h q hr hi
theorem tb_putF (G : α → D) {a : α} {mp : R (List δ × (List δ → α))} {me : R δ} {mk : R Int} {m' : R α} {k : α → R β} (h : PS X st (tAsg (tE X.K W E X.N.length ρ s2 me) (gSub (@tP α (List δ) ⟨G⟩ _ X.K W E X.N.length ρ i s r a (.lst s2) mp) (tE X.K W E X.N.length ρ .frz mk) rSetL))) (q : (me.bind fun x => mp.bind fun p => mk.bind fun j => (putR p.1 j x).bind fun c => .ok (p.2 c)) = m') (hr : ∀ z : α, VB X W E (se ρ i (.vl (.ow s r) (G z))) rest (k z) out) (hi : ρ i = .vl (.ow s r) (G a) := by rfl) :
    VB X W E ρ (st :: rest) (m'.bind k) out := @tb_put X W E ρ s s2 i r α δ β ⟨G⟩ _ a out st rest mp me mk m' k h q hr hi
end
end Tx

set_option Elab.async false
set_option linter.all false
set_option maxRecDepth 100000
set_option maxHeartbeats 4000000
/-! A20: bodies of defs that change an argument; index, augmented stores. -/
namespace Tx
open PySem L2 PyProof.Rows En EnL

def argP : Nat → List D → Env → Env
  | _, [], ρ => ρ
  | k, d :: ds, ρ => se (argP (k + 1) ds ρ) k (.vl .fz d)
/-- the slots at the start: as, what is owned, bs -/
def argI (as : List D) (x : Sl) (bs : List D) : Env := argP 0 as (se (argE (as.length + 1) bs) as.length x)
theorem argP_get : ∀ (as : List D) (k i : Nat) (ρ : Env) (m : Md) (d : D), argP k as ρ i = .vl m d → (k ≤ i ∧ i < k + as.length ∧ m = .fz ∧ as[i - k]? = some d) ∨ ((i < k ∨ k + as.length ≤ i) ∧ ρ i = .vl m d)
  | [], k, i, ρ, m, d, h => .inr ⟨by simp; omega, h⟩
  | x :: as, k, i, ρ, m, d, h => by
    unfold argP at h
    by_cases q : i = k
    · subst q
      rw [se_same] at h
      cases h
      exact .inl ⟨Nat.le_refl _, by simp, rfl, by simp⟩
    · rw [se_ne _ _ q] at h
      rcases argP_get as (k + 1) i ρ m d h with ⟨h1, h2, h3, h4⟩ | ⟨h1, h2⟩
      · refine .inl ⟨by omega, by simp; omega, h3, ?_⟩
        rw [show i - k = (i - (k + 1)) + 1 by omega]
        simpa using h4
      · exact .inr ⟨by simp; omega, h2⟩
section
variable {K : PySem.W.Frag} {W : Vp} {A B β δ ε : Type} [EnL A] [EnL B] [En β] [En δ] [En ε]
theorem startI_env {N : List Str} {F H : Hp} {ws us : List V} {u : V} {x : A} {y : B} {z : δ} {s1 : Sh} {fq : List Addr} (s : Same F H) (w : Ow K W.rc F H s1 u (en z) fq) (n : ∀ a ∈ fq, F a = none) (r1 : RpA K W.rc F ws (enl x)) (r2 : RpA K W.rc F us (enl y)) (hl : (ws ++ u :: us).length ≤ N.length) :
    EnvS K W.rc (hid H fq) F H N.length (L2.start N (ws ++ u :: us)) (argI (enl x) (.vl (.ow s1 (some u)) (en z)) (enl y)) := by
  have l1 := r1.len
  have pos : ∀ i m d, argI (enl x) (.vl (.ow s1 (some u)) (en z)) (enl y) i = .vl m d → (m = .fz ∧ i ≠ (enl x).length ∧ ∃ v, (ws ++ u :: us)[i]? = some v ∧ Rp K W.rc F v d) ∨ (i = (enl x).length ∧ m = .ow s1 (some u) ∧ d = en z) := fun i m d h => by
    rcases argP_get _ _ _ _ _ _ h with ⟨_, h2, h3, h4⟩ | ⟨h1, h2⟩
    · obtain ⟨v, q1, q2⟩ := r1.get h4
      refine .inl ⟨h3, by omega, v, ?_, q2⟩
      rw [List.getElem?_append_left (by rw [l1]; omega)]
      simpa using q1
    · by_cases q : i = (enl x).length
      · subst q
        rw [se_same] at h2
        cases h2
        exact .inr ⟨rfl, rfl, rfl⟩
      · rw [se_ne _ _ q] at h2
        obtain ⟨g1, g2, g3⟩ := argE_get _ _ _ _ _ h2
        obtain ⟨v, q1, q2⟩ := r2.get g3
        refine .inl ⟨g2, q, v, ?_, q2⟩
        rw [List.getElem?_append_right (by rw [l1]; omega), l1]
        rw [show i - (enl x).length = (i - ((enl x).length + 1)) + 1 by omega]
        simpa using q1
  refine ⟨hid_le H fq, s, start_len hl, fun i => if i = (enl x).length then fq else [], fun i m d h => ?_, fun i j s r d t q e hne h1 h2 => ?_⟩
  · rcases pos i m d h with ⟨rfl, h1, v, h2, h3⟩ | ⟨rfl, rfl, rfl⟩
    · exact ⟨v, start_get h2, if_neg h1, h3⟩
    · refine ⟨u, start_get (by rw [List.getElem?_append_right (by rw [l1]; exact Nat.le_refl _), l1]; simp), (fun v e => by cases e; rfl), ?_, ?_⟩
      · show Ow K W.rc F H s1 u (en z) (if (enl x).length = (enl x).length then fq else [])
        rw [if_pos rfl]; exact w
      · show ∀ a ∈ (if (enl x).length = (enl x).length then fq else []), _
        rw [if_pos rfl]; exact fun a ha => ⟨n a ha, hid_in ha⟩
  · rcases pos i _ d h1 with ⟨e1, _⟩ | ⟨e1, _⟩
    · cases e1
    · rcases pos j _ e h2 with ⟨e2, _⟩ | ⟨e2, _⟩
      · cases e2
      · exact (hne (e1.trans e2.symm)).elim
/-- a body that falls off its end, the argument changed -/
theorem bodyI_nx {E : XK} {N : List Str} {vs : List V} {H : Hp} {Q : VK} {g : A → δ → B → R ε} {s1 s2 : Sh} (hl : vs.length ≤ N.length) (h : spI K W s1 (fun (x : A) (z : δ) (y : B) => (g x z y).map fun s => ((), s)) .frz s2 vs H Q E) :
    ∃ (x : A) (u : V) (z : δ) (y : B), tB K W (fun _ => E) N.length (argI (enl x) (.vl (.ow s1 (some u)) (en z)) (enl y)) (g x z y) (fun s' : ε => .nx (se e0 (enl x).length (.vl (.ow s2 (some u)) (en s')))) { nx := fun _ H' => Q .non H', rt := Q } (L2.start N vs) H := by
  obtain ⟨F, ws, u, us, x, z, y, fq, rfl, sF, w, nF, r1, r2, m⟩ := h
  have m := hd_map m
  refine ⟨x, u, z, y, hid H fq, F, F, startI_env sF w nF r1 r2 hl, Ext.refl F _, ?_⟩
  cases hg : g x z y with
  | ok b =>
    rw [hg] at m
    refine fun σ' H' F' k x' => ?_
    obtain ⟨v, fr, o⟩ := k.own (i := (enl x).length) (s := s2) (r := some u) (d := en b) (se_same _ _ _)
    have ev := o.rt u rfl
    subst ev
    exact okH m .non H' F' [] fr k.same x' k.sub (.sc rfl .non) o.ow (fun a ha => nomatch ha) (fun a ha => ⟨(o.fre a ha).2, (o.fre a ha).1⟩) fun a ha => nomatch ha
  | ex c => rw [hg] at m; exact fun _ H' z => m H' z
  | no => rw [hg] at m; exact m.elim
end
section
variable {P : Program} {w : World} {K : PySem.W.Frag} {mg : Str → Option Value} {base : Heap} {W : Vp} {A B δ ε : Type} [EnL A] [EnL B] [En δ] [En ε]
theorem fn_I {x qual : Str} {st : Stmt} {N ps : List Str} {k : Nat} {g : A → δ → B → R ε} {s1 s2 : Sh} {fa : Addr} {fd : FuncData} (F : Fun K x qual st fa fd) (S : FnScope N ps (defScope st))
    (hb : ∀ (cdv : Value) (Ar : Around) (outer : List PySem.Env) (sh : Shared) (H : Hp) (E : XK), Rm k (Ar.deeper (envOfC qual (defScope st) sh.heap.objs.size fa cdv)) → ∀ (a : A) (u : V) (z : δ) (b : B), VB (cxOf (L2.CX P w) P w K mg base N qual (defScope st) fa cdv Ar outer sh H E) W (fun _ => E) (argI (enl a) (.vl (.ow s1 (some u)) (en z)) (enl b)) (defBody st) (g a z b) (fun s' : ε => .nx (se e0 (enl a).length (.vl (.ow s2 (some u)) (en s')))))
    (hn : ∀ (a : A) (b : B), (enl a).length + ((enl b).length + 1) = ps.length := by intro _ _; rfl) (hl : Nat.ble ps.length N.length = true := by rfl) : FnG P w K mg base (k + 1) fa fd ps (spI K W s1 (fun (a : A) (z : δ) (b : B) => (g a z b).map fun s => ((), s)) .frz s2) :=
  fnG_of F S (fun vs H Q E ⟨_, ws, u, us, a, z, b, _, e, _, _, _, r1, r2, _⟩ => by rw [e, List.length_append, List.length_cons, r1.len, r2.len, hn]) fun cdv Ar outer sh H vs Q E hr h => by
    have l : vs.length ≤ N.length := by
      obtain ⟨_, ws, u, us, a, z, b, _, e, _, _, _, r1, r2, _⟩ := h
      rw [e, List.length_append, List.length_cons, r1.len, r2.len, hn]
      exact Nat.le_of_ble_eq_true hl
    obtain ⟨a, u, z, b, q⟩ := bodyI_nx (N := N) l h
    exact ⟨_, hb cdv Ar outer sh H E hr a u z b, q⟩
/-- what of the text a method must have -/
structure Mth (K : PySem.W.Frag) (W : Vp) (cn nm qual : Str) (st : Stmt) (ps : List Str) : Prop where
  ex : ∃ (C f : Addr) (fd : FuncData), W.rc.cl cn = some C ∧ Cls K C ∧ Meth K C nm f ∧ Fun K nm qual st f fd ∧ Binds K fd ps []
structure Ini (K : PySem.W.Frag) (mg : Str → Option Value) (W : Vp) (cn qual : Str) (st : Stmt) (ps : List Str) : Prop where
  ex : ∃ (C f : Addr) (fd : FuncData), W.rc.cl cn = some C ∧ mg cn = some (.ref C) ∧ Mk K C f ∧ Fun K "__init__" qual st f fd ∧ Binds K fd ps []
theorem calM {β : Type} [En β] {cn nm qual : Str} {st : Stmt} {N ps : List Str} {k : Nat} {f : A → R β} {s : Sh} (d : Mth K W cn nm qual st ps) (S : FnScope N ps (defScope st))
    (hb : ∀ (fa : Addr) (cdv : Value) (Ar : Around) (outer : List PySem.Env) (sh : Shared) (H : Hp) (E : XK), Rm k (Ar.deeper (envOfC qual (defScope st) sh.heap.objs.size fa cdv)) → ∀ a : A, VB (cxOf (L2.CX P w) P w K mg base N qual (defScope st) fa cdv Ar outer sh H E) W (fun _ => E) (argE 0 (enl a)) (defBody st) (f a) (rtOut s))
    (hn : ∀ a : A, (enl a).length = ps.length := by intro _; rfl) (hl : Nat.ble ps.length N.length = true := by rfl) : CalM P w K mg base W cn nm (k + 1) f s := by
  obtain ⟨C, fa, fd, hc, cl, hm, F, hbd⟩ := d.ex
  refine ⟨C, fa, fd, ps, hc, cl, hm, hbd, fnG_of F S (fun vs H Q E ⟨_, a, _, r, _⟩ => by rw [r.len, hn]) fun cdv Ar outer sh H vs Q E hr h => ?_⟩
  have l : vs.length ≤ N.length := by
    obtain ⟨_, a, _, r, _⟩ := h
    rw [r.len, hn]
    exact Nat.le_of_ble_eq_true hl
  obtain ⟨a, q⟩ := body_rt (N := N) l h
  exact ⟨_, hb fa cdv Ar outer sh H E hr a, q⟩
theorem calI {cn nm qual : Str} {st : Stmt} {N ps : List Str} {k : Nat} {g : A → δ → B → R ε} {s1 s2 : Sh} (d : Mth K W cn nm qual st ps) (S : FnScope N ps (defScope st))
    (hb : ∀ (fa : Addr) (cdv : Value) (Ar : Around) (outer : List PySem.Env) (sh : Shared) (H : Hp) (E : XK), Rm k (Ar.deeper (envOfC qual (defScope st) sh.heap.objs.size fa cdv)) → ∀ (a : A) (u : V) (z : δ) (b : B), VB (cxOf (L2.CX P w) P w K mg base N qual (defScope st) fa cdv Ar outer sh H E) W (fun _ => E) (argI (enl a) (.vl (.ow s1 (some u)) (en z)) (enl b)) (defBody st) (g a z b) (fun s' : ε => .nx (se e0 (enl a).length (.vl (.ow s2 (some u)) (en s')))))
    (hn : ∀ (a : A) (b : B), (enl a).length + ((enl b).length + 1) = ps.length := by intro _ _; rfl) (hl : Nat.ble ps.length N.length = true := by rfl) : CalI P w K mg base W cn nm (k + 1) s1 (fun (a : A) (z : δ) (b : B) => (g a z b).map fun s => ((), s)) .frz s2 := by
  obtain ⟨C, fa, fd, hc, cl, hm, F, hbd⟩ := d.ex
  exact ⟨C, fa, fd, ps, hc, cl, hm, hbd, fn_I F S (hb fa) hn hl⟩
theorem calK {cn qual : Str} {st : Stmt} {N ps : List Str} {k : Nat} {g : B → R ε} {ss : List (Str × Sh)} (d : Ini K mg W cn qual st ps) (S : FnScope N ps (defScope st))
    (hb : ∀ (fa : Addr) (cdv : Value) (Ar : Around) (outer : List PySem.Env) (sh : Shared) (H : Hp) (E : XK), Rm k (Ar.deeper (envOfC qual (defScope st) sh.heap.objs.size fa cdv)) → ∀ (u : V) (b : B), VB (cxOf (L2.CX P w) P w K mg base N qual (defScope st) fa cdv Ar outer sh H E) W (fun _ => E) (argI [] (.vl (.ow (.ins cn []) (some u)) (insV cn [] [])) (enl b)) (defBody st) (g b) (fun s' : ε => .nx (se e0 0 (.vl (.ow (.ins cn ss) (some u)) (en s')))))
    (hn : ∀ (b : B), (enl b).length + 1 = ps.length := by intro _; rfl) (hl : Nat.ble ps.length N.length = true := by rfl) : CalK P w K mg base W cn (k + 1) g ss := by
  obtain ⟨C, fa, fd, hc, hg, M, F, hbd⟩ := d.ex
  refine ⟨C, fa, fd, ps, hc, hg, M, hbd, fnG_of F S (fun vs H Q E ⟨_, ws, u, us, a, z, b, _, e, _, _, _, r1, r2, _⟩ => by rw [e, List.length_append, List.length_cons, r1.len, r2.len, ← hn b]; show 0 + _ = _; omega) fun cdv Ar outer sh H vs Q E hr h => ?_⟩
  have l : vs.length ≤ N.length := by
    obtain ⟨_, ws, u, us, a, z, b, _, e, _, _, _, r1, r2, _⟩ := h
    have := Nat.le_of_ble_eq_true hl
    have hb' := hn b
    rw [e, List.length_append, List.length_cons, r1.len, r2.len]
    show 0 + _ ≤ _
    omega
  obtain ⟨a', u', z', b', q⟩ := bodyI_nx (N := N) (K := K) (W := W) (g := fun (_ : Unit) (_ : I0 cn) (b : B) => g b) (s1 := .ins cn []) (s2 := .ins cn ss) l h
  exact ⟨_, hb fa cdv Ar outer sh H E hr u' b', q⟩
end
/-! ### list.index -/
def idxR (l : List Int) (y : Int) : R Int :=
  match l.idxOf? y with
  | some j => .ok j
  | none => .no
theorem eqV_int (a b : Int) : eqV (.int a) (.int b) = decide (a = b) := by
  by_cases h : a = b
  · subst h; simp [eqV]
  · simp [eqV, h]
section
variable {X : Cx} {W : Vp} {E : L2.St → XK} {ρ : Env} {o e : Expr} {p pos apos cpos : Pos}
theorem te_index {m : R (List Int)} {n : R (Int × Unit)} (h : PE X e (tBM X.K "list" (rIndex X.K) (tE X.K W E X.N.length ρ .frz m) (tA X.K W E X.N.length ρ .frz n))) : VE X W E ρ .frz e (m.bind fun l => n.bind fun y => idxR l y.1) := h.wk fun σ H Q ⟨H0, F, k, q⟩ =>
  ⟨H0, F, k, (hd_bind q).imp fun l q1 v H1 F1 fp s1 x1 f1 w1 _ => by
    have r1 := w1.toRp.2
    have r1' : Rp X.K W.rc F1 v (.list (l.map PyData.int)) := r1
    cases r1' with
    | @lst a vs ds h1 r =>
      have ev := r.ofInts
      subst ev
      refine ⟨.inl ⟨rfl, _, sqr_l (sqr_mono f1 h1)⟩, H0, F1, k.grow s1 x1 f1, ((hd_bind q1).heap s1).imp fun y q2 us H2 F2 fq s2 x2 f2 w2 _ => ?_⟩
      have r2 := w2.toRp.2
      have eu : us = [.int y.1] := by
        have r2 : RpA X.K W.rc F2 us [PyData.int y.1] := r2
        cases r2 with
        | cons r t => cases r; cases t; rfl
      subst eu
      unfold idxR at q2
      cases hj : l.idxOf? y.1 with
      | none => rw [hj] at q2; exact q2.elim
      | some j =>
        rw [hj] at q2
        obtain ⟨hlt, hget, hno⟩ : ∃ h : j < l.length, l[j] = y.1 ∧ ∀ i (hi : i < j), l[i]'(Nat.lt_trans hi h) ≠ y.1 := by
          have := List.idxOf?_eq_some_iff.mp hj
          obtain ⟨h, h1, h2⟩ := this
          exact ⟨h, by simpa using h1, fun i hi => by simpa using h2 i hi⟩
        refine ⟨a, l.map V.int, .int y.1, j, .int y.1, rfl, rfl, sqr_l (sqr_mono (x2.up.trans f2) h1), rfl, ?_, ?_, by rw [eqV_int]; simp, fun i z' hi hz => ?_, okH q2 _ H2 F2 [] (s1.trans s2) (x1.trans s1 x2) f2 (.fz (.int _)) fun x hx => nomatch hx⟩
        · simp [flatV]
        · simp [List.getElem?_map, hlt, hget]
        · rw [List.getElem?_map, List.getElem?_eq_getElem (Nat.lt_trans hi hlt)] at hz
          cases hz
          rw [eqV_int]
          simpa using hno i hi⟩
/-! ### xs[k] op= e -/
theorem pget_list : PGet X (rIxL X.K) := by
  intro pins s σ H o i ov iv Q I ro ri ⟨p, xs, k, z, e1, e2, hq, he, q⟩
  subst e1; subst e2
  cases ro
  obtain ⟨t, rfl⟩ := ri
  obtain ⟨its, r, pl, hz⟩ := I.list hq
  obtain ⟨j, h1, h2, h3, h4, h5⟩ := atI_get he
  obtain ⟨w, ew, rw'⟩ := r.get h2
  have hl := r.length
  have hn := line63
  have fin : EP X pins σ Q w s := ⟨z, H, I, rw', q⟩
  by_cases h0 : 0 ≤ k
  · have hj : k.toNat = j := by
      rw [seqIndex_of h0 h5] at h1
      exact Option.some.inj h1
    exact PySem.wpAny_getItem_list pl.isList h0 (by omega) (by rw [hj]; simpa using ew) fin
  · have hj : (k + (its.toArray.size : Int)).toNat = j := by
      rw [seqIndex_neg (by omega) h4] at h1
      rw [List.size_toArray, ← hl]
      exact Option.some.inj h1
    exact wpAny_getItem_list_neg pl.isList (by omega) (by rw [List.size_toArray] <;> omega) (by omega) (by rw [hj]; simpa using ew) fin
end
end Tx

set_option Elab.async false
set_option linter.all false
set_option maxRecDepth 100000
set_option maxHeartbeats 4000000
/-! A21: what is owned is handed on. -/
namespace Tx
open PySem L2 PyProof.Rows En EnL

/-- the slots, and what is set aside -/
structure EnvR (K : PySem.W.Frag) (C : Rc) (H0 F H : Hp) (L : Nat) (σ : L2.St) (ρ : Env) (R : List Addr) : Prop where
  same : Same H0 H
  sub : Same F H
  len : σ.length = L
  sl : ∃ fp : Nat → List Addr, (∀ i m d, ρ i = .vl m d → ∃ v, σ[i]? = some (some v) ∧ ValM K C H0 F H m v d (fp i)) ∧
    (∀ i j s r d t q e, i ≠ j → ρ i = .vl (.ow s r) d → ρ j = .vl (.ow t q) e → ∀ a ∈ fp i, a ∉ fp j) ∧ ∀ i s r d, ρ i = .vl (.ow s r) d → ∀ a ∈ fp i, a ∉ R
section
variable {K : PySem.W.Frag} {C : Rc} {H0 F F' H H' : Hp} {L : Nat} {σ : L2.St} {ρ ρ' : Env} {R R' fp : List Addr} {i : Nat} {s : Sh} {v : V} {d : D} {r : Option V}
theorem EnvR.env (k : EnvR K C H0 F H L σ ρ R) : EnvS K C H0 F H L σ ρ := ⟨k.same, k.sub, k.len, let ⟨fp, h1, h2, _⟩ := k.sl; ⟨fp, h1, h2⟩⟩
theorem EnvS.toR (k : EnvS K C H0 F H L σ ρ) : EnvR K C H0 F H L σ ρ [] := ⟨k.same, k.sub, k.len, let ⟨fp, h1, h2⟩ := k.sl; ⟨fp, h1, h2, fun _ _ _ _ _ _ _ h => nomatch h⟩⟩
theorem EnvR.grow (k : EnvR K C H0 F H L σ ρ R) (sm : Same H H') (x : Ext F H F') (sb : Same F' H') : EnvR K C H0 F' H' L σ ρ R := by
  obtain ⟨fp, o1, o2, o3⟩ := k.sl
  refine ⟨k.same.trans sm, sb, k.len, fp, fun i m d e => ?_, o2, o3⟩
  obtain ⟨v, h1, h2⟩ := o1 i m d e
  exact ⟨v, h1, h2.grow h2.live m sm x⟩
theorem EnvR.congr (k : EnvR K C H0 F H L σ ρ R) (h : ∀ a, a ∈ R' → a ∈ R) : EnvR K C H0 F H L σ ρ R' := ⟨k.same, k.sub, k.len, let ⟨fp, h1, h2, h3⟩ := k.sl; ⟨fp, h1, h2, fun i s r d e a ha hr => h3 i s r d e a ha (h a hr)⟩⟩
/-- more is set aside, new -/
theorem EnvR.more (k : EnvR K C H0 F H L σ ρ R) (n : ∀ a ∈ fp, H a = none) : EnvR K C H0 F H L σ ρ (fp ++ R) := ⟨k.same, k.sub, k.len, by
  obtain ⟨gp, h1, h2, h3⟩ := k.sl
  refine ⟨gp, h1, h2, fun i s r d e a ha hr => ?_⟩
  rcases List.mem_append.mp hr with h | h
  · obtain ⟨v, _, q⟩ := h1 i _ d e
    obtain ⟨o, e'⟩ := q.live a ha
    rw [n a h] at e'; cases e'
  · exact h3 i s r d e a ha h⟩
/-- a slot's value is taken out -/
theorem EnvR.take (k : EnvR K C H0 F H L σ ρ R) (hi : ρ i = .vl (.ow s r) d) : ∃ v fp, σ[i]? = some (some v) ∧ (∀ u, r = some u → v = u) ∧ Ow K C F H s v d fp ∧ (∀ a ∈ fp, F a = none ∧ H0 a = none) ∧ (∀ a ∈ fp, a ∉ R) ∧ EnvR K C H0 F H L σ (se ρ i .un) (fp ++ R) := by
  obtain ⟨gp, h1, h2, h3⟩ := k.sl
  obtain ⟨v, q1, q2, q3, q4⟩ := h1 i _ d hi
  refine ⟨v, gp i, q1, q2, q3, q4, h3 i s r d hi, k.same, k.sub, k.len, gp, fun j m e z => ?_, fun a b s r d t q e n z1 z2 => ?_, fun j s' r' d' z a ha hr => ?_⟩
  · have ne : j ≠ i := fun w => by subst w; rw [se_same] at z; cases z
    rw [se_ne _ _ ne] at z
    exact h1 j m e z
  · have na : a ≠ i := fun w => by subst w; rw [se_same] at z1; cases z1
    have nb : b ≠ i := fun w => by subst w; rw [se_same] at z2; cases z2
    rw [se_ne _ _ na] at z1
    rw [se_ne _ _ nb] at z2
    exact h2 a b s r d t q e n z1 z2
  · have ne : j ≠ i := fun w => by subst w; rw [se_same] at z; cases z
    rw [se_ne _ _ ne] at z
    rcases List.mem_append.mp hr with h | h
    · exact h2 j i s' r' d' s r d ne z hi a ha h
    · exact h3 j s' r' d' z a ha h
/-- what is set aside goes to a slot -/
theorem EnvR.set (k : EnvR K C H0 F H L σ ρ fp) (hi : i < L) (w : Ow K C F H s v d fp) (n : ∀ a ∈ fp, H0 a = none ∧ F a = none) : EnvS K C H0 F H L (σ.set i (some v)) (se ρ i (.vl (.ow s none) d)) := by
  obtain ⟨gp, h1, h2, h3⟩ := k.sl
  refine ⟨k.same, k.sub, by rw [List.length_set]; exact k.len, fset gp i fp, fun j m e q => ?_, fun a b s r d t q e hn z1 z2 y hy => ?_⟩
  · by_cases z : j = i
    · subst z
      rw [se_same] at q; cases q
      refine ⟨v, List.getElem?_set_self (by rw [k.len]; exact hi), (fun u h => by cases h), ?_, ?_⟩
      · rw [fset_same]; exact w
      · rw [fset_same]; exact fun a ha => ⟨(n a ha).2, (n a ha).1⟩
    · rw [se_ne _ _ z] at q
      rw [List.getElem?_set_ne (Ne.symm z), fset_ne _ _ z]
      exact h1 j m e q
  · by_cases za : a = i
    · have zb : b ≠ i := fun w => hn (za.trans w.symm)
      subst za
      rw [fset_same] at hy
      rw [fset_ne _ _ zb]
      rw [se_ne _ _ zb] at z2
      exact fun hz => h3 b _ _ _ z2 y hz hy
    · rw [fset_ne _ _ za] at hy
      rw [se_ne _ _ za] at z1
      by_cases zb : b = i
      · subst zb
        rw [fset_same]
        exact h3 a _ _ _ z1 y hy
      · rw [fset_ne _ _ zb]
        rw [se_ne _ _ zb] at z2
        exact h2 a b s r d t q e hn z1 z2 y hy
/-- a slot's object is changed, and takes what was set aside -/
theorem EnvR.mut {p : Addr} {ho : HO} {gz : List Addr} {s2 : Sh} {d2 : D} {u : V} (k : EnvR K C H0 F H L σ ρ fp) (hi : ρ i = .vl (.ow s r) d) (hv : σ[i]? = some (some u))
    (h : ∀ gi : List Addr, Ow K C F H s u d gi → (∀ a ∈ gi, a ∉ fp) → p ∈ gi ∧ ∃ fr, Ow K C F (upd H p ho) s2 u d2 fr ∧ ∀ a ∈ fr, a ∈ gi ∨ a ∈ fp) (n : ∀ a ∈ fp, H0 a = none ∧ F a = none) : EnvS K C H0 F (upd H p ho) L σ (se ρ i (.vl (.ow s2 r) d2)) := by
  obtain ⟨gp, h1, h2, h3⟩ := k.sl
  obtain ⟨v, q1, q2, q3, q4⟩ := h1 i _ d hi
  rw [hv] at q1; cases q1
  obtain ⟨hp, fr, w, hfr⟩ := h (gp i) q3 (h3 i s r d hi)
  have pF := (q4 p hp).1
  have p0 := (q4 p hp).2
  have oth : ∀ j m e, j ≠ i → ρ j = .vl m e → p ∉ gp j := fun j m e nj q hj => by
    obtain ⟨x, _, x2⟩ := h1 j m e q
    cases m with
    | fz => rw [x2.1] at hj; cases hj
    | bw t q' =>
      obtain ⟨_, o, e'⟩ := x2.2.2 p hj
      rw [p0] at e'; cases e'
    | ow t q' => exact h2 j i t q' e s r d nj q hi p hj hp
  refine ⟨fun a o e => ?_, fun a o e => ?_, k.len, fset gp i fr, fun j m e q => ?_, fun a b s r d t q e hn z1 z2 y hy => ?_⟩
  · rw [upd_ne fun z => by rw [z, p0] at e; cases e]; exact k.same a o e
  · rw [upd_ne fun z => by rw [z, pF] at e; cases e]; exact k.sub a o e
  · by_cases z : j = i
    · subst z
      rw [se_same] at q; cases q
      refine ⟨u, hv, q2, ?_, ?_⟩
      · rw [fset_same]; exact w
      · rw [fset_same]
        intro a ha
        rcases hfr a ha with h | h
        · exact q4 a h
        · exact ⟨(n a h).2, (n a h).1⟩
    · rw [se_ne _ _ z] at q
      rw [fset_ne _ _ z]
      obtain ⟨x, x1, x2⟩ := h1 j m e q
      refine ⟨x, x1, ?_⟩
      have np := oth j m e z q
      have keep : ∀ a ∈ gp j, upd H p ho a = H a := fun a ha => upd_ne fun w => np (w ▸ ha)
      cases m with
      | fz => exact x2
      | bw t q' => exact ⟨x2.1, x2.2.1.mono (Same.refl F) keep, x2.2.2⟩
      | ow t q' => exact ⟨x2.1, x2.2.1.mono (Same.refl F) keep, x2.2.2⟩
  · by_cases za : a = i
    · have zb : b ≠ i := fun w => hn (za.trans w.symm)
      subst za
      rw [fset_same] at hy
      rw [fset_ne _ _ zb]
      rw [se_ne _ _ zb] at z2
      intro hz
      rcases hfr y hy with h | h
      · exact h2 b a _ _ _ _ _ _ zb z2 hi y hz h
      · exact h3 b _ _ _ z2 y hz h
    · rw [fset_ne _ _ za] at hy
      rw [se_ne _ _ za] at z1
      by_cases zb : b = i
      · subst zb
        rw [fset_same]
        intro hz
        rcases hfr y hz with h | h
        · exact h2 a b _ _ _ _ _ _ za z1 hi y hy h
        · exact h3 a _ _ _ z1 y hy h
      · rw [fset_ne _ _ zb]
        rw [se_ne _ _ zb] at z2
        exact h2 a b s r d t q e hn z1 z2 y hy
end
def tM {α : Type} [En α] (K : PySem.W.Frag) (W : Vp) (E : L2.St → XK) (L : Nat) (ρ ρ' : Env) (s : Sh) (m : R α) : TE := fun σ H Q => ∃ H0 F R, EnvR K W.rc H0 F H L σ ρ R ∧ (∀ a ∈ R, ∃ o, H a = some o) ∧ Hd (E σ) W H m fun a =>
  ∀ v H' F' fp, Same H H' → Ext F H F' → EnvR K W.rc H0 F' H' L σ ρ' (fp ++ R) → (∀ a ∈ fp, a ∉ R) → Ow K W.rc F' H' s v (en a) fp → (∀ a ∈ fp, H0 a = none ∧ F' a = none) → Q v H'
def tMA {A : Type} [EnL A] (K : PySem.W.Frag) (W : Vp) (E : L2.St → XK) (L : Nat) (ρ ρ' : Env) (s : Sh) (m : R A) : TA := fun σ H Q => ∃ H0 F R, EnvR K W.rc H0 F H L σ ρ R ∧ (∀ a ∈ R, ∃ o, H a = some o) ∧ Hd (E σ) W H m fun a =>
  ∀ vs H' F' fp, Same H H' → Ext F H F' → EnvR K W.rc H0 F' H' L σ ρ' (fp ++ R) → (∀ a ∈ fp, a ∉ R) → OwA K W.rc F' H' s vs (enl a) fp → (∀ a ∈ fp, H0 a = none ∧ F' a = none) → Q vs H'
abbrev VM {α : Type} [En α] (X : Cx) (W : Vp) (E : L2.St → XK) (ρ ρ' : Env) (s : Sh) (e : Expr) (m : R α) : Prop := PE X e (tM X.K W E X.N.length ρ ρ' s m)
abbrev VMA {A : Type} [EnL A] (X : Cx) (W : Vp) (E : L2.St → XK) (ρ ρ' : Env) (s : Sh) (es : List Expr) (m : R A) : Prop := PA X es (tMA X.K W E X.N.length ρ ρ' s m)
section
variable {X : Cx} {W : Vp} {E : L2.St → XK} {ρ ρ' ρ1 ρ2 : Env} {s s2 : Sh} {e a b : Expr} {es : List Expr} {pos : Pos} {i j : Nat} {α β γ : Type} [En α] [En γ] {A : Type} [EnL A] {r : Option V} {out : β → Out} {st st1 st2 : Stmt} {rest : List Stmt}
theorem vm_e {m : R α} (h : VE X W E ρ s e m) : VM X W E ρ ρ s e m := h.wk fun σ H Q ⟨H0, F, R, k, rl, q⟩ => ⟨H0, F, k.env, q.imp fun x p v H1 F1 fp s1 x1 f1 w n => by
  refine p v H1 F1 fp s1 x1 ((k.more (fp := fp) fun a ha => (n a ha).1).grow s1 x1 f1) (fun a ha hr => ?_) w fun a ha => ⟨none_back k.same (n a ha).1, (n a ha).2⟩
  obtain ⟨o, e'⟩ := rl a hr
  rw [(n a ha).1] at e'; cases e'⟩
theorem vm_v {x : α} (h : PE X e (tVar i)) (hi : ρ i = .vl (.ow s r) (en x)) : VM X W E ρ (se ρ i .un) s e (.ok x) := h.wk fun σ H Q ⟨H0, F, R, k, rl, q⟩ => by
  obtain ⟨v, fp, h1, h2, h3, h4, h5, h6⟩ := k.take hi
  exact ⟨v, h1, okH q v H F fp (Same.refl H) (Ext.refl F H) h6 h5 h3 fun a ha => ⟨(h4 a ha).2, (h4 a ha).1⟩⟩
theorem vm_eq {m m' : R α} (h : VM X W E ρ ρ' s e m) (q : m = m') : VM X W E ρ ρ' s e m' := q ▸ h
theorem vma_nil : VMA X W E ρ ρ s [] (.ok ()) := pa_nil.wk fun σ H Q ⟨H0, F, R, k, rl, q⟩ => okH q [] H F [] (Same.refl H) (Ext.refl F H) k (fun a ha => nomatch ha) .nil fun a ha => nomatch ha
theorem vma_cons {m : R α} {mA : R A} (ha : VM X W E ρ ρ1 s e m) (hr : VMA X W E ρ1 ρ2 s es mA) (hs : starEach (e :: es) X.env = (false, eval e X.env) :: starEach es X.env := by rfl) : VMA X W E ρ ρ2 s (e :: es) (m.bind fun x => mA.bind fun y => .ok (x, y)) :=
  (pa_cons ha hr hs).wk fun σ H Q ⟨H0, F, R, k, rl, q⟩ => ⟨H0, F, R, k, rl, (hd_bind q).imp fun x p v H1 F1 fp s1 x1 k1 d1 w1 n1 => ⟨H0, F1, fp ++ R, k1, (fun a ha => by
    rcases List.mem_append.mp ha with h | h
    · exact w1.live a h
    · obtain ⟨o, e'⟩ := rl a h
      exact ⟨o, s1 a o e'⟩), ((hd_bind p).heap s1).imp fun y p2 vs H2 F2 fq s2 x2 k2 d2 w2 n2 => by
    have keep : ∀ a ∈ fp, H2 a = H1 a ∧ F2 a = none := fun a ha => by
      obtain ⟨o, e'⟩ := w1.live a ha
      exact ⟨(s2 a o e').trans e'.symm, x2.out e' (n1 a ha).2⟩
    refine okH p2 (v :: vs) H2 F2 (fp ++ fq) (s1.trans s2) (x1.trans s1 x2) (k2.congr fun a ha => ?_) (fun a ha hr => ?_) (.cons (w1.mono x2.up fun a ha => (keep a ha).1) w2 fun a ha hb => d2 a hb (List.mem_append.mpr (.inl ha))) fun a ha => ?_
    · rcases List.mem_append.mp ha with h | h
      · rcases List.mem_append.mp h with h | h
        · exact List.mem_append.mpr (.inr (List.mem_append.mpr (.inl h)))
        · exact List.mem_append.mpr (.inl h)
      · exact List.mem_append.mpr (.inr (List.mem_append.mpr (.inr h)))
    · rcases List.mem_append.mp ha with h | h
      · exact d1 a h hr
      · exact d2 a h (List.mem_append.mpr (.inr hr))
    · rcases List.mem_append.mp ha with h | h
      · exact ⟨(n1 a h).1, (keep a h).2⟩
      · exact n2 a h⟩⟩
theorem vm_lst {mA : R A} (f : A → α) (h : VMA X W E ρ ρ' s es mA) (hf : ∀ x, en (f x) = .list (enl x) := by intro _; rfl) (hz : ∀ x : A, Nat.ble (enl x).length 64 = true := by intro _; rfl) : VM X W E ρ ρ' (.lst s) (.List es pos) (mA.map f) :=
  (pe_lst h).wk fun σ H Q ⟨H0, F, R, kk, rl, q⟩ => ⟨H0, F, R, kk, rl, (hd_map q).imp fun x p vs H1 F1 fp s1 x1 k1 d1 w1 n1 => by
    have l := w1.len
    have l2 := Nat.le_of_ble_eq_true (hz x)
    have l3 : (64 : Nat) ≤ sizeLine := by decide
    refine ⟨by omega, fun pa hp => ?_⟩
    have np : pa ∉ fp := fun hx => by
      obtain ⟨o, e⟩ := w1.live pa hx
      rw [hp] at e; cases e
    have k2 := (k1.grow (same_upd (o := .lst vs) hp) (Ext.refl F1 H1) (k1.sub.trans (same_upd hp)))
    have k3 : EnvR X.K W.rc H0 F1 (upd H1 pa (.lst vs)) X.N.length σ ρ' ((pa :: fp) ++ R) := by
      have := (k1.more (fp := [pa]) fun a ha => by rw [List.mem_singleton.mp ha]; exact hp).grow (same_upd (o := .lst vs) hp) (Ext.refl F1 H1) (k1.sub.trans (same_upd hp))
      exact this
    refine p (.ref pa) _ F1 (pa :: fp) (s1.trans (same_upd hp)) x1 k3 (fun a ha hr => ?_) ?_ fun a ha => ?_
    · rcases List.mem_cons.mp ha with rfl | ha
      · obtain ⟨o, e⟩ := rl a hr
        have := s1 a o e
        rw [hp] at this; cases this
      · exact d1 a ha hr
    · rw [hf]
      exact .lst upd_same (w1.mono (Same.refl F1) fun a ha => upd_ne fun z => np (z ▸ ha)) np
    · rcases List.mem_cons.mp ha with rfl | ha
      · exact ⟨none_back k1.same hp, none_back k1.sub hp⟩
      · exact n1 a ha⟩
theorem vm_tup {k} {mA : R A} (f : A → α) (h : VMA X W E ρ ρ' s es mA) (hf : ∀ x, en (f x) = .tuple (enl x) := by intro _; rfl) (hz : ∀ x : A, Nat.ble (enl x).length 64 = true := by intro _; rfl) : VM X W E ρ ρ' (.tup s) (.Tuple es k pos) (mA.map f) :=
  (pe_tup h).wk fun σ H Q ⟨H0, F, R, kk, rl, q⟩ => ⟨H0, F, R, kk, rl, (hd_map q).imp fun x p vs H1 F1 fp s1 x1 k1 d1 w1 n1 => by
    have l := w1.len
    have l2 := Nat.le_of_ble_eq_true (hz x)
    have l3 : (64 : Nat) ≤ sizeLine := by decide
    refine ⟨by omega, fun pa hp => ?_⟩
    have np : pa ∉ fp := fun hx => by
      obtain ⟨o, e⟩ := w1.live pa hx
      rw [hp] at e; cases e
    have k3 : EnvR X.K W.rc H0 F1 (upd H1 pa (.tup vs)) X.N.length σ ρ' ((pa :: fp) ++ R) := by
      have := (k1.more (fp := [pa]) fun a ha => by rw [List.mem_singleton.mp ha]; exact hp).grow (same_upd (o := .tup vs) hp) (Ext.refl F1 H1) (k1.sub.trans (same_upd hp))
      exact this
    refine p (.ref pa) _ F1 (pa :: fp) (s1.trans (same_upd hp)) x1 k3 (fun a ha hr => ?_) ?_ fun a ha => ?_
    · rcases List.mem_cons.mp ha with rfl | ha
      · obtain ⟨o, e⟩ := rl a hr
        have := s1 a o e
        rw [hp] at this; cases this
      · exact d1 a ha hr
    · rw [hf]
      exact .tup upd_same (w1.mono (Same.refl F1) fun a ha => upd_ne fun z => np (z ▸ ha)) np
    · rcases List.mem_cons.mp ha with rfl | ha
      · exact ⟨none_back k1.same hp, none_back k1.sub hp⟩
      · exact n1 a ha⟩
/-- xs + ys of owned lists -/
theorem vm_cat {δ : Type} [En δ] {m n : R (List δ)} (ha : VM X W E ρ ρ1 (.lst s) a m) (hb : VM X W E ρ1 ρ2 (.lst s) b n) : VM X W E ρ ρ2 (.lst s) (.BinOp a .Add b pos) (m.bind fun x => n.bind fun y => catR x y) :=
  (pe_op op_catR ha hb).wk fun σ H Q ⟨H0, F, R, k, rl, q⟩ => ⟨H0, F, R, k, rl, (hd_bind q).imp fun x p v H1 F1 fp s1 x1 k1 d1 w1 n1 => ⟨H0, F1, fp ++ R, k1, (fun a ha => by
    rcases List.mem_append.mp ha with h | h
    · exact w1.live a h
    · obtain ⟨o, e'⟩ := rl a h
      exact ⟨o, s1 a o e'⟩), ((hd_bind p).heap s1).imp fun y p2 u H2 F2 fq s2 x2 k2 d2 w2 n2 => by
    have w1' : Ow X.K W.rc F1 H1 (.lst s) v (.list (x.map en)) fp := w1
    have w2' : Ow X.K W.rc F2 H2 (.lst s) u (.list (y.map en)) fq := w2
    cases w1' with
    | sc z _ => cases z
    | lst z1 z2 z3 =>
      cases w2' with
      | sc z _ => cases z
      | lst y1 y2 y3 =>
        rename_i pa xs fx pb ys fy
        have l1 := z2.len
        have l2 := y2.len
        rw [List.length_map] at l1 l2
        unfold catR at p2
        by_cases hz : x.length + y.length ≤ big
        case neg => rw [if_neg hz] at p2; exact p2.elim
        rw [if_pos hz] at p2
        refine ⟨pa, pb, xs, ys, rfl, rfl, .inl (.inl (s2 _ _ z1)), .inl (.inl y1), Nat.le_trans (by omega) big_le, fun pn hp => ?_⟩
        have keep : ∀ c ∈ fx, H2 c = H1 c ∧ F2 c = none := fun c hc => by
          obtain ⟨o, e'⟩ := z2.live c hc
          exact ⟨(s2 c o e').trans e'.symm, x2.out e' (n1 c (List.mem_cons_of_mem _ hc)).2⟩
        have dis : ∀ c ∈ fx, c ∉ fy := fun c hc hd => d2 c (List.mem_cons_of_mem _ hd) (List.mem_append.mpr (.inl (List.mem_cons_of_mem _ hc)))
        obtain ⟨fr, r1, r2⟩ := OwA.app (z2.mono x2.up fun c hc => (keep c hc).1) y2 dis
        have sub : ∀ c ∈ fr, c ∈ fx ∨ c ∈ fy := fun c hc => (r1 c).mp hc
        have npr : pn ∉ fr := fun hx => by
          obtain ⟨o, e⟩ := r2.live pn hx
          rw [hp] at e; cases e
        have k3 : EnvR X.K W.rc H0 F2 (upd H2 pn (.lst (xs ++ ys))) X.N.length σ ρ2 ((pn :: fr) ++ R) := by
          have := (k2.more (fp := [pn]) fun c hc => by rw [List.mem_singleton.mp hc]; exact hp).grow (same_upd (o := .lst (xs ++ ys)) hp) (Ext.refl F2 H2) (k2.sub.trans (same_upd hp))
          refine this.congr fun c hc => ?_
          rcases List.mem_append.mp hc with h | h
          · rcases List.mem_cons.mp h with e | h
            · exact List.mem_append.mpr (.inl (by rw [e]; exact List.mem_cons_self))
            · refine List.mem_append.mpr (.inr ?_)
              rcases sub c h with h | h
              · exact List.mem_append.mpr (.inr (List.mem_append.mpr (.inl (List.mem_cons_of_mem _ h))))
              · exact List.mem_append.mpr (.inl (List.mem_cons_of_mem _ h))
          · exact List.mem_append.mpr (.inr (List.mem_append.mpr (.inr (List.mem_append.mpr (.inr h)))))
        refine okH p2 (.ref pn) _ F2 (pn :: fr) ((s1.trans s2).trans (same_upd hp)) (x1.trans s1 x2) k3 (fun c hc hr => ?_) ?_ fun c hc => ?_
        · rcases List.mem_cons.mp hc with rfl | hc
          · obtain ⟨o, e⟩ := rl c hr
            have := s2 c o (s1 c o e)
            rw [hp] at this; cases this
          · rcases sub c hc with h | h
            · exact d1 c (List.mem_cons_of_mem _ h) hr
            · exact d2 c (List.mem_cons_of_mem _ h) (List.mem_append.mpr (.inr hr))
        · show Ow X.K W.rc F2 _ (.lst s) (.ref pn) (.list ((x ++ y).map en)) _
          rw [List.map_append]
          exact .lst upd_same (r2.mono (Same.refl F2) fun c hc => upd_ne fun z => npr (z ▸ hc)) npr
        · rcases List.mem_cons.mp hc with rfl | hc
          · exact ⟨none_back k2.same hp, none_back k2.sub hp⟩
          · rcases sub c hc with h | h
            · exact ⟨(n1 c (List.mem_cons_of_mem _ h)).1, (keep c h).2⟩
            · exact n2 c (List.mem_cons_of_mem _ h)⟩⟩
/-! ### where it goes -/
theorem vb_setM {m : R α} {k : α → R β} (h : PS X st (tAsg (tM X.K W E X.N.length ρ ρ' s m) (gName i))) (hr : ∀ x, VB X W E (se ρ' i (.vl (.ow s none) (en x))) rest (k x) out) (hi : Nat.blt i X.N.length = true := by rfl) : VB X W E ρ (st :: rest) (m.bind k) out :=
  (pss_cons h (pss_any hr)).wk fun De σ H ⟨H0, F0, F, kk, x, q⟩ => ⟨H0, F, [], kk.toR, (fun a ha => nomatch ha), ((hds_bind q).hd σ kk.same).imp fun a q v H1 F1 fp s1 x1 k1 _ w n =>
    ⟨a, H0, F0, F1, (k1.congr fun c hc => List.mem_append.mpr (.inl hc)).set (Nat.le_of_ble_eq_true hi) w n, x.trans kk.same x1, q⟩⟩
theorem vb_retM {m : R α} {m' : R β} {inj : α → β} (h : PS X st (tRet (tM X.K W E X.N.length ρ ρ' s m))) (q : (m.bind fun x => .ok (inj x)) = m') (ho : ∀ a, out (inj a) = .rt s (en a) none := by intro _; rfl) : VB X W E ρ [st] m' out := by
  subst q
  exact (pss_one h).wk fun De σ H ⟨H0, F0, F, kk, x, q⟩ => ⟨H0, F, [], kk.toR, (fun a ha => nomatch ha), ((hds_bind q).hd σ kk.same).imp fun a q v H1 F1 fp s1 x1 k1 _ w n => by
    have q : SPost X.K W X.N.length H0 F0 De (out (inj a)) := q
    rw [ho] at q
    exact q v H1 F1 fp (kk.same.trans s1) (x.trans kk.same x1) k1.sub w n⟩
/-- xs.append(y): y is handed on -/
theorem vb_appM {l : List γ} {m : R γ} {m' : R (List γ)} {k : List γ → R β} (h : PS X st (tDrop (tBM X.K "list" rAppend (tVar i) (tCons (tM X.K W E X.N.length ρ ρ' s2 m) tNil)))) (hi : ρ i = .vl (.ow (.lst s2) r) (en l)) (hi' : ρ' i = .vl (.ow (.lst s2) r) (en l)) (q : (m.bind fun x => appR l x) = m') (hr : ∀ z, VB X W E (se ρ' i (.vl (.ow (.lst s2) r) (en z))) rest (k z) out) : VB X W E ρ (st :: rest) (m'.bind k) out := by
  subst q
  simp only [R.bind_assoc]
  refine (pss_cons h (pss_any hr)).wk fun De σ H ⟨H0, F0, F, kk, x, q⟩ => ?_
  obtain ⟨v, fp, o⟩ := kk.own hi
  have wl : Ow X.K W.rc F H (.lst s2) v (.list (l.map en)) fp := o.ow
  cases wl with
  | sc z _ => cases z
  | lst z1 z2 z3 =>
    rename_i pa xs fx
    refine ⟨_, o.at_, .inl ⟨rfl, xs, SqL.of z1⟩, H0, F, [], kk.toR, (fun a ha => nomatch ha), ((hds_bind q).hd σ kk.same).imp fun y q1 u H1 F1 fq s1 x1 k1 _ w n => ?_⟩
    have k1 := k1.congr (R' := fq) fun c hc => List.mem_append.mpr (.inl hc)
    have q1 := hds_bind q1
    have l1 := z2.len
    rw [List.length_map] at l1
    unfold appR at q1
    by_cases hz : l.length < big
    case neg => rw [if_neg hz] at q1; exact q1.elim
    rw [if_pos hz] at q1
    have hv : σ[i]? = some (some (.ref pa)) := o.at_
    refine ⟨pa, xs, u, rfl, rfl, s1 _ _ z1, Nat.lt_of_lt_of_le (by omega) big_le, l ++ [y], H0, F0, F1, ?_, x.trans kk.same x1, q1⟩
    refine k1.mut (ho := .lst (xs ++ [u])) (gz := []) hi' hv (fun gi wi dj => ?_) n
    have wi : Ow X.K W.rc F1 H1 (.lst s2) (.ref pa) (.list (l.map en)) gi := wi
    cases wi with
    | sc z _ => cases z
    | lst y1 y2 y3 =>
      rename_i xs' fy
      have ex : xs' = xs := by
        have := s1 _ _ z1
        rw [y1] at this; cases this; rfl
      subst ex
      refine ⟨List.mem_cons_self, ?_⟩
      have np : pa ∉ fq := dj pa List.mem_cons_self
      have w3 : Ow X.K W.rc F1 (upd H1 pa (.lst (xs' ++ [u]))) s2 u (en y) fq := w.mono (Same.refl F1) fun c hc => upd_ne fun z => np (z ▸ hc)
      obtain ⟨fr, r1, r2⟩ := OwA.snoc w3 (y2.mono (Same.refl F1) fun c hc => upd_ne fun z => y3 (z ▸ hc)) fun c hc hd => dj c (List.mem_cons_of_mem _ hc) hd
      have nr : pa ∉ fr := fun hp => by
        rcases (r1 pa).mp hp with h | h
        · exact y3 h
        · exact np h
      refine ⟨pa :: fr, ?_, fun c hc => ?_⟩
      · show Ow X.K W.rc F1 _ (.lst s2) (.ref pa) (.list ((l ++ [y]).map en)) _
        rw [List.map_append]
        exact .lst upd_same r2 nr
      · rcases List.mem_cons.mp hc with e | hc
        · exact .inl (by rw [e]; exact List.mem_cons_self)
        · rcases (r1 c).mp hc with h | h
          · exact .inl (List.mem_cons_of_mem _ h)
          · exact .inr h
end
end Tx

set_option Elab.async false
set_option linter.all false
set_option maxRecDepth 100000
set_option maxHeartbeats 4000000
/-! A22: further stores. -/
namespace Tx
open PySem L2 PyProof.Rows En EnL

section
variable {K : PySem.W.Frag} {C : Rc} {H0 F H : Hp} {L : Nat} {σ : L2.St} {ρ : Env} {j : Nat} {v : V} {d : D}
theorem EnvS.addfz (k : EnvS K C H0 F H L σ ρ) (hv : σ[j]? = some (some v)) (rp : Rp K C F v d) : EnvS K C H0 F H L σ (se ρ j (.vl .fz d)) := by
  obtain ⟨gp, h1, h2⟩ := k.sl
  refine ⟨k.same, k.sub, k.len, fset gp j [], fun i m e q => ?_, fun a b s r d t q e n z1 z2 y hy => ?_⟩
  · by_cases z : i = j
    · subst z
      rw [se_same] at q; cases q
      exact ⟨v, hv, fset_same _ _ _, rp⟩
    · rw [se_ne _ _ z] at q
      rw [fset_ne _ _ z]
      exact h1 i m e q
  · have na : a ≠ j := fun w => by subst w; rw [se_same] at z1; cases z1
    have nb : b ≠ j := fun w => by subst w; rw [se_same] at z2; cases z2
    rw [se_ne _ _ na] at z1
    rw [se_ne _ _ nb] at z2
    rw [fset_ne _ _ na] at hy
    rw [fset_ne _ _ nb]
    exact h2 a b s r d t q e n z1 z2 y hy
theorem ixAt_lt {n : Nat} {i : Int} {k : Nat} (hk : ixAt n i = some k) : k < n := by
  unfold ixAt at hk
  split at hk
  · split at hk
    · cases hk; omega
    · cases hk
  · split at hk
    · cases hk; omega
    · cases hk
end
section
variable {X : Cx} {W : Vp} {E : L2.St → XK} {ρ ρ' : Env} {s s2 s' : Sh} {e o : Expr} {pos pos' : Pos} {i j : Nat} {α β γ : Type} [En α] [En γ] {r : Option V} {out : β → Out} {st st1 st2 : Stmt} {rest : List Stmt} {cn f : Str} {ns fl : List Str} {ss : List Sh} {ds : List D}
/-- xs[k] op= e of ints -/
theorem tb_augS {g : Int → Int → Int} {a : α} {mp : R (List Int × (List Int → α))} {mk me : R Int} {m' : R α} {k : α → R β} (h : PS X st (tAugS (tP X.K W E X.N.length ρ i s r a (.lst s2) mp) (tE X.K W E X.N.length ρ .frz mk) (tE X.K W E X.N.length ρ .frz me) (rIxL X.K) (ipI g) rSetL)) (q : (mp.bind fun p => mk.bind fun j => (ixR p.1 j).bind fun x => me.bind fun y => (putR p.1 j (g x y)).bind fun c => .ok (p.2 c)) = m') (hr : ∀ z : α, VB X W E (se ρ i (.vl (.ow s r) (en z))) rest (k z) out) (hi : ρ i = .vl (.ow s r) (en a) := by rfl) :
    VB X W E ρ (st :: rest) (m'.bind k) out := by
  subst q
  simp only [R.bind_assoc, R.okb]
  refine (pss_cons h (pss_any hr)).wk fun De σ H ⟨H0, F0, F, kk, x, q⟩ => ?_
  obtain ⟨v, fp, o⟩ := kk.own hi
  refine ⟨H0, F, kk, v, fp, o, ((hds_bind q).hd σ kk.same).imp fun p q1 v' fa H1 F1 s1 x1 f1 foc => ?_⟩
  have k1 := kk.grow s1 x1 f1
  refine ⟨H0, F1, k1, ((hds_bind q1).hd σ k1.same).imp fun jj q2 t H2 F2 _ s2' x2 f2 w2 _ => ?_⟩
  have ej := int_rp w2.toRp.2
  subst ej
  have k2 := k1.grow s2' x2 f2
  obtain ⟨og, _⟩ := o.grow s1 x1
  have foc2 := foc.grow og x2.up s2'
  have wl : Ow X.K W.rc F2 H2 (.lst s2) v' (.list (p.1.map en)) fa := foc2.1
  cases wl with
  | sc z _ => cases z
  | lst z1 z2 z3 =>
    rename_i pa xs fx
    have l := z2.len
    rw [List.length_map] at l
    have q2 := hds_bind q2
    unfold ixR at q2
    cases hk : ixAt p.1.length jj with
    | none => rw [hk] at q2; exact q2.elim
    | some kx =>
      rw [hk] at q2
      have hlt := ixAt_lt hk
      simp only [List.getElem?_eq_getElem hlt] at q2
      have q2 : HdS E W H0 (me.bind fun y => (putR p.1 jj (g p.1[kx] y)).bind fun c => k (p.2 c)) _ := q2
      have kmap : (p.1.map en)[kx]? = some (en p.1[kx]) := by rw [List.getElem?_map, List.getElem?_eq_getElem hlt]; rfl
      obtain ⟨vc, fc, fd, y1, y2, y3, y4, y5⟩ := z2.focus kmap
      have evc : vc = .int p.1[kx] := by
        generalize p.1[kx] = ii at y2
        have y2 : Ow X.K W.rc F2 H2 s2 vc (.int ii) fc := y2
        cases y2 with
        | sc z r => cases r; rfl
        | fz r => cases r; rfl
      refine ⟨pa, xs, jj, vc, rfl, rfl, SqL.of z1, ?_, ?_⟩
      · show (ixN xs.length jj).bind (fun j => xs[j]?) = some vc
        have : ixN xs.length jj = some kx := by rw [l]; exact hk
        rw [this]; exact y1
      · refine ⟨H0, F2, k2, ((hds_bind q2).hd σ k2.same).imp fun y q3 u H3 F3 _ s3 x3 f3 w3 _ => ?_⟩
        have eu := int_rp w3.toRp.2
        subst eu
        subst evc
        have q3 := hds_bind q3
        unfold putR at q3
        rw [hk] at q3
        have q3 : HdS E W H0 (k (p.2 (p.1.set kx (g p.1[kx] y)))) _ := q3
        refine ⟨p.1[kx], y, rfl, rfl, ?_⟩
        have s12 := s1.trans s2'
        have x12 := x1.trans s1 x2
        refine ⟨pa, xs, jj, kx, rfl, rfl, s3 _ _ z1, by rw [l]; exact hk, p.2 (p.1.set kx (g p.1[kx] y)), H0, F0, F3, ?_, x.trans kk.same (x12.trans s12 x3), q3⟩
        have keep : ∀ b ∈ fx, upd H3 pa (.lst (xs.set kx (.int (g p.1[kx] y)))) b = H2 b := fun b hb => by
          rw [upd_ne (fun e => by rw [e] at hb; exact z3 hb)]
          obtain ⟨w, e⟩ := z2.live b hb
          exact (s3 b w e).trans e.symm
        obtain ⟨fr, r1, r2⟩ := y5 F3 (upd H3 pa (.lst (xs.set kx (.int (g p.1[kx] y))))) (.int (g p.1[kx] y)) (.int (g p.1[kx] y)) [] x3.up (fun b hb => keep b ((y3 b).mpr (.inr hb))) (.sc rfl (.int _)) fun b hb => nomatch hb
        have np : pa ∉ fr := fun hp => by
          rcases (r1 pa).mp hp with h | h
          · cases h
          · exact z3 ((y3 pa).mpr (.inr h))
        refine o.mut (z := p.1.set kx (g p.1[kx] y)) (fq := pa :: fr) s12 x12 f2 foc2 s3 x3 f3 (.lst upd_same (by rw [List.map_set]; exact r2) np) kk.sub fun b hb => ?_
        rcases List.mem_cons.mp hb with e | hb
        · exact .inl e
        · rcases (r1 b).mp hb with h | h
          · cases h
          · exact .inr (.inl ((y3 b).mpr (.inr h)))
/-- xs.append(y); xs.append(e): y is handed on, and read once more -/
theorem vb_app2 {l : List γ} {y : γ} {m : R γ} {m' : R (List γ)} {k : List γ → R β} [GrT s2 γ] {r2 : Option V} (h1 : PS X st1 (tDrop (tBM X.K "list" rAppend (tVar i) (tCons (tVar j) tNil)))) (h2 : PS X st2 (tDrop (tBM X.K "list" rAppend (tVar i) (tCons (tE X.K W E X.N.length (se (fzA (se (se ρ j .un) i .un)) j (.vl .fz (en y))) s2 m) tNil)))) (hi : ρ i = .vl (.ow (.lst s2) r) (en l)) (hj : ρ j = .vl (.ow s2 r2) (en y)) (hij : i ≠ j)
    (q : ((appR l y).bind fun l1 => m.bind fun x => appR l1 x) = m') (hr : ∀ z, VB X W E (se (se ρ j .un) i (.vl (.ow (.lst s2) r) (en z))) rest (k z) out) : VB X W E ρ (st1 :: st2 :: rest) (m'.bind k) out := by
  subst q
  simp only [R.bind_assoc]
  refine (pss_cons h1 (pss_cons h2 (pss_any hr))).wk fun De σ H ⟨H0, F0, F, kk, x, q⟩ => ?_
  obtain ⟨v, fp, o⟩ := kk.own hi
  have wl : Ow X.K W.rc F H (.lst s2) v (.list (l.map en)) fp := o.ow
  cases wl with
  | sc z _ => cases z
  | lst z1 z2 z3 =>
    rename_i pa xs fx
    obtain ⟨vj, fj, oj⟩ := kk.own hj
    have l1 := z2.len
    rw [List.length_map] at l1
    have q := hds_bind q
    unfold appR at q
    by_cases hz : l.length < big
    case neg => rw [if_neg hz] at q; exact q.elim
    rw [if_pos hz] at q
    have q : HdS E W H0 (m.bind fun x => (appR (l ++ [y]) x).bind k) _ := q
    refine ⟨_, o.at_, .inl ⟨rfl, xs, SqL.of z1⟩, vj, oj.at_, pa, xs, vj, rfl, rfl, z1, Nat.lt_of_lt_of_le (by omega) big_le, ?_⟩
    -- behind the first
    obtain ⟨v2, fq, t1, t2, t3, t4, t5, t6⟩ := kk.toR.take hj
    rw [oj.at_] at t1; cases t1
    have t6 := t6.congr (R' := fq) fun c hc => List.mem_append.mpr (.inl hc)
    have hv : σ[i]? = some (some (.ref pa)) := o.at_
    have hi' : (se ρ j .un) i = .vl (.ow (.lst s2) r) (en l) := by rw [se_ne _ _ hij]; exact hi
    let H1 := upd H pa (.lst (xs ++ [vj]))
    have k1 : EnvS X.K W.rc H0 F H1 X.N.length σ (se (se ρ j .un) i (.vl (.ow (.lst s2) r) (en (l ++ [y])))) := by
      refine t6.mut (ho := .lst (xs ++ [vj])) (gz := []) hi' hv (fun gi wi dj => ?_) fun c hc => ⟨(t4 c hc).2, (t4 c hc).1⟩
      have wi : Ow X.K W.rc F H (.lst s2) (.ref pa) (.list (l.map en)) gi := wi
      cases wi with
      | sc z _ => cases z
      | lst y1 y2 y3 =>
        rename_i xs' fy
        have ex : xs' = xs := by rw [y1] at z1; cases z1; rfl
        subst ex
        refine ⟨List.mem_cons_self, ?_⟩
        have np : pa ∉ fq := dj pa List.mem_cons_self
        have w3 : Ow X.K W.rc F (upd H pa (.lst (xs' ++ [vj]))) s2 vj (en y) fq := t3.mono (Same.refl F) fun c hc => upd_ne fun z => np (z ▸ hc)
        obtain ⟨fr, r1, r2⟩ := OwA.snoc w3 (y2.mono (Same.refl F) fun c hc => upd_ne fun z => y3 (z ▸ hc)) fun c hc hd => dj c (List.mem_cons_of_mem _ hc) hd
        have nr : pa ∉ fr := fun hp => by
          rcases (r1 pa).mp hp with h | h
          · exact y3 h
          · exact np h
        refine ⟨pa :: fr, ?_, fun c hc => ?_⟩
        · show Ow X.K W.rc F _ (.lst s2) (.ref pa) (.list ((l ++ [y]).map en)) _
          rw [List.map_append]
          exact .lst upd_same r2 nr
        · rcases List.mem_cons.mp hc with e | hc
          · exact .inl (by rw [e]; exact List.mem_cons_self)
          · rcases (r1 c).mp hc with h | h
            · exact .inl (List.mem_cons_of_mem _ h)
            · exact .inr h
    -- what y is, in the heap as it is now
    have nj : pa ∉ fq := by
      obtain ⟨gp2, a1, a2, a3⟩ := t6.sl
      obtain ⟨u3, b1, b2⟩ := a1 i _ _ hi'
      rw [hv] at b1; cases b1
      have w : Ow X.K W.rc F H (.lst s2) (.ref pa) (.list (l.map en)) (gp2 i) := b2.2.1
      refine a3 i _ _ _ hi' pa ?_
      generalize gp2 i = gi at w
      cases w with
      | sc z _ => cases z
      | lst _ _ _ => exact List.mem_cons_self
    have rj : Rp X.K W.rc H1 vj (en y) := (t3.mono (H' := H1) (Same.refl F) fun c hc => upd_ne fun z => nj (z ▸ hc)).rp k1.sub fun _ _ => rfl
    have kA : EnvS X.K W.rc H1 H1 H1 X.N.length σ (se (fzA (se (se ρ j .un) i .un)) j (.vl .fz (en y))) := by
      have k2 : EnvS X.K W.rc H0 F H1 X.N.length σ (se (se ρ j .un) i .un) := k1.le fun n => by
        by_cases z : n = i
        · subst z; exact .inl (se_same _ _ _)
        · rw [se_ne _ _ z, se_ne _ _ z]; exact .inr rfl
      exact k2.all.addfz oj.at_ rj
    have z1' : H1 pa = some (.lst (xs ++ [vj])) := upd_same
    refine ⟨_, hv, .inl ⟨rfl, _, SqL.of z1'⟩, H1, H1, kA, ((hds_bind q).hd σ k1.same).imp fun a q1 u H2 F2 fq2 s2' x2 f2 w2 n2 => ?_⟩
    have q1 := hds_bind q1
    unfold appR at q1
    by_cases hz2 : (l ++ [y]).length < big
    case neg => rw [if_neg hz2] at q1; exact q1.elim
    rw [if_pos hz2] at q1
    rw [List.length_append, List.length_singleton] at hz2
    refine ⟨pa, xs ++ [vj], u, rfl, rfl, s2' _ _ z1', Nat.lt_of_lt_of_le (by rw [List.length_append, List.length_singleton]; omega) big_le, l ++ [y] ++ [a], H0, F0, F, ?_, x, q1⟩
    have wg : Ow X.K W.rc F H2 s2 u (en a) fq2 := w2.ground (GrT.gr a)
    have k3 := ((k1.toR.more (fp := fq2) fun c hc => (n2 c hc).1).grow s2' (Ext.refl F H1) (k1.sub.trans s2')).congr (R' := fq2) fun c hc => List.mem_append.mpr (.inl hc)
    have k4 := k3.mut (i := i) (s := .lst s2) (r := r) (d := en (l ++ [y])) (p := pa) (ho := .lst (xs ++ [vj] ++ [u])) (gz := []) (s2 := .lst s2) (d2 := en (l ++ [y] ++ [a])) (u := .ref pa) (se_same _ _ _) hv (fun gi wi dj => by
      have wi : Ow X.K W.rc F H2 (.lst s2) (.ref pa) (.list ((l ++ [y]).map en)) gi := wi
      cases wi with
      | sc z _ => cases z
      | lst y1 y2 y3 =>
        rename_i xs' fy
        have ex : xs' = xs ++ [vj] := by
          have := s2' _ _ z1'
          rw [y1] at this; cases this; rfl
        subst ex
        refine ⟨List.mem_cons_self, ?_⟩
        have np : pa ∉ fq2 := dj pa List.mem_cons_self
        have w3 : Ow X.K W.rc F (upd H2 pa (.lst (xs ++ [vj] ++ [u]))) s2 u (en a) fq2 := wg.mono (Same.refl F) fun c hc => upd_ne fun z => np (z ▸ hc)
        obtain ⟨fr, r1, r2⟩ := OwA.snoc w3 (y2.mono (Same.refl F) fun c hc => upd_ne fun z => y3 (z ▸ hc)) fun c hc hd => dj c (List.mem_cons_of_mem _ hc) hd
        have nr : pa ∉ fr := fun hp => by
          rcases (r1 pa).mp hp with h | h
          · exact y3 h
          · exact np h
        refine ⟨pa :: fr, ?_, fun c hc => ?_⟩
        · show Ow X.K W.rc F _ (.lst s2) (.ref pa) (.list ((l ++ [y] ++ [a]).map en)) _
          rw [List.map_append]
          exact .lst upd_same r2 nr
        · rcases List.mem_cons.mp hc with e | hc
          · exact .inl (by rw [e]; exact List.mem_cons_self)
          · rcases (r1 c).mp hc with h | h
            · exact .inl (List.mem_cons_of_mem _ h)
            · exact .inr h) fun c hc => ⟨none_back k1.same (n2 c hc).1, none_back k1.sub (n2 c hc).1⟩
    refine k4.le fun n => ?_
    by_cases z : n = i
    · subst z; rw [se_same, se_same]; exact .inr rfl
    · rw [se_ne _ _ z, se_ne _ _ z, se_ne _ _ z]; exact .inr rfl
/-- o.f = e: what is owned is handed on to a field that is there -/
theorem vb_fldM {m : R α} {kk : α → R β} {dj : D} {sj : Sh} (c : ClsI X.K W cn fl) (hf : f ∈ fl) (hj : idxS f ns = some j) (h : PE X o (tVar i)) (hi' : ρ' i = .vl (.ow (.ins cn (zipS ns ss)) r) (insV cn ns ds)) (hd : ds[j]? = some dj) (hs : ss[j]? = some sj) (he : VM X W E ρ ρ' s2 e m)
    (hrest : ∀ x, VB X W E (se ρ' i (.vl (.ow (.ins cn (zipS ns (ss.set j s2))) r) (insV cn ns (ds.set j (en x))))) rest (kk x) out) (hl : ns.length = ds.length := by rfl) (hl2 : ns.length = ss.length := by rfl) (hn : ns.length < 1000 := by decide) (hsw : swapsWith e (some (.Attribute o f pos')) pos.line X.env = pure false := by rfl) :
    VB X W E ρ (.Assign [.Attribute o f pos'] e pos :: rest) (m.bind kk) out := (pss_cons (ps_fld h he hsw) (pss_any hrest)).wk fun De σ H ⟨H0, F0, F, k0, x, q⟩ => by
  refine ⟨H0, F, [], k0.toR, (fun a ha => nomatch ha), ((hds_bind q).hd σ k0.same).imp fun y q1 u H1 F1 fq s1' x1 k1 _ w1 n1 => ?_⟩
  have k1 := k1.congr (R' := fq) fun c hc => List.mem_append.mpr (.inl hc)
  obtain ⟨gp, g1, g2, g3⟩ := k1.sl
  obtain ⟨v, hv, hvm⟩ := g1 i _ _ hi'
  obtain ⟨a, c', dx, fs, fz, ev, hc', ho', efp, hw, na⟩ := ow_ins hvm.2.1
  subst ev
  have hnm := owf_zip hl hl2 hw
  obtain ⟨C, e1, cl, nat⟩ := c.ex
  rw [e1] at hc'; cases hc'
  have lf : fs.length = ns.length := by rw [← hnm, List.length_map]
  refine ⟨_, hv, a, _, dx, fs, rfl, ho', cl, nat f hf, by omega, y, H0, F0, F1, ?_, x.trans k0.same x1, q1⟩
  refine k1.mut (ho := .ins c' dx (putF f u fs)) (gz := []) hi' hv (fun gi wi dj' => ?_) n1
  obtain ⟨a2, c2, dx2, fs2, fz2, ev2, hc2, ho2, efp2, hw2, na2⟩ := ow_ins wi
  cases ev2
  rw [ho'] at ho2; cases ho2
  refine ⟨by rw [efp2]; exact List.mem_cons_self, ?_⟩
  obtain ⟨g, v0, fa, fb, p1, p2, p3, p4, p5, p6⟩ := owf_focus hl hl2 hw2 hs hd
  have eg : g = f := by have := idx_lt hj; rw [p1] at this; cases this; rfl
  subst eg
  have nq : a ∉ fq := dj' a (by rw [efp2]; exact List.mem_cons_self)
  obtain ⟨fr, r1, r2⟩ := p6 F1 (upd H1 a (.ins c' dx (putF g u fs))) s2 u (en y) fq (Same.refl F1) (fun b hb => upd_ne fun z => na2 (z ▸ (p4 b).mpr (.inr hb))) (w1.mono (Same.refl F1) fun b hb => upd_ne fun z => nq (z ▸ hb)) fun b hb hc => dj' b (by rw [efp2]; exact List.mem_cons_of_mem _ ((p4 b).mpr (.inr hc))) hb
  have nr : a ∉ fr := fun hr => by
    rcases (r1 a).mp hr with h | h
    · exact nq h
    · exact na2 ((p4 a).mpr (.inr h))
  refine ⟨a :: fr, .ins e1 upd_same (by rw [put_idx hnm hj]; rw [put_idx hnm hj] at r2; exact r2) nr, fun b hb => ?_⟩
  rcases List.mem_cons.mp hb with e | hb
  · exact .inl (by rw [efp2, e]; exact List.mem_cons_self)
  · rcases (r1 b).mp hb with h | h
    · exact .inr h
    · exact .inl (by rw [efp2]; exact List.mem_cons_of_mem _ ((p4 b).mpr (.inr h)))
end
section
variable {X : Cx} {W : Vp} {E : L2.St → XK} {ρ : Env} {rest body : List Stmt} {tg iter : Expr} {pos : Pos} {α β S : Type} [En α] {mi : R (List α)} {k : S → R β} {out : β → Out} {s0 : S} {g : GF}
/-- a for while which the slot i is lent -/
theorem tb_forL {f : α → S → R S} {ei : V → S → Env} {ρy : V → α → S → Env} {ρ2 : S → Env} {s : Sh} {r : Option V} {d : D} (i : Nat) (hx : ∀ v x s, g (en x) (ei v s) = some (ρy v x s)) (hi : ρ i = .vl (.ow s r) d) (hp : PassesOwn (model X.prog X.w) X.A X.env X.xe) (hc : X.calm = true) (hit : ∀ v, VI X W E (se ρ i (.vl (.bw s (some v)) d)) true tg iter mi) (hg : VG X W (fun _ => true) tg g)
    (hl : ∀ v, Le (ei v s0) (se ρ i (.vl (.bw s (some v)) d))) (hb : ∀ v x s, VB X W E (ρy v x s) body (f x s) fun s' => .nc (ei v s')) (hr : ∀ s, VB X W E (ρ2 s) rest (k s) out) (hk : ∀ v s', Back i ρ (ei v s') (ρ2 s'))
    (h1 : ∀ v s', ei v s' i = .vl (.bw s (some v)) d := by intro _ _; rfl) (h2 : ∀ s', ρ2 s' i = .vl (.ow s r) d := by intro _; rfl) (hs : ∀ z, foldedSetIterable iter X.env z = pure z := by intro _; rfl) :
    VB X W E ρ (.For tg iter body [] pos :: rest) (mi.bind fun xs => (forR f xs s0).bind k) out := vb_forL i hi hp hc hit hg hl hb hr hk hx h1 h2 hs
end
end Tx

set_option Elab.async false
set_option linter.all false
set_option maxRecDepth 100000
set_option maxHeartbeats 4000000
/-! A23: dicts with int keys. -/
namespace Tx
open PySem L2 PyProof.Rows En EnL

section
variable {α : Type}
def dcV (l : List (Int × α)) (k : Int) : Option α := (l.find? fun p => decide (p.1 = k)).map (·.2)
def dcPut (l : List (Int × α)) (k : Int) (a : α) : List (Int × α) := if (l.any fun p => decide (p.1 = k)) = true then l.map (fun p => if p.1 = k then (p.1, a) else p) else l ++ [(k, a)]
def dgetR (d : Dc Int α) (k : Int) : R α :=
  match dcV d.l k with
  | some a => .ok a
  | none => .no
def dputR (d : Dc Int α) (k : Int) (a : α) : R (Dc Int α) := if d.l.length < big then .ok ⟨dcPut d.l k a⟩ else .no
variable [En α] {K : PySem.W.Frag} {C : Rc} {F H : Hp}
theorem rk_v : ∀ {fs : List (Key × V)} {l : List (Int × α)} (k : Int), RpK K C F fs (l.map fun p => (en p.1, en p.2)) → (∀ a, dcV l k = some a → ∃ v, valV fs (Sum.inl k) = some v ∧ Rp K C F v (en a)) ∧ (dcV l k = none → valV fs (Sum.inl k) = none)
  | [], [], k, _ => ⟨(fun _ h => by cases h), fun _ => rfl⟩
  | (k0, v0) :: fs, (i, a0) :: l, k, h => by
    rw [List.map_cons] at h
    generalize he : ((en i, en a0) : D × D) = p0 at h
    cases h with
    | cons h1 h2 =>
      have e1 : keyD k0 = .int i := (Prod.mk.inj he).1.symm
      have e2 := (Prod.mk.inj he).2
      have ek : k0 = Sum.inl i := by
        cases k0 with
        | inl x => have e1 : PyData.int x = .int i := e1; cases e1; rfl
        | inr x => have e1 : PyData.str x = .int i := e1; cases e1
      subst ek
      obtain ⟨a1, a2⟩ := rk_v k h2
      by_cases q : i = k
      · subst q
        rw [valV_pos rfl]
        refine ⟨fun a ha => ⟨v0, rfl, ?_⟩, fun hn => ?_⟩
        · have : a0 = a := by simpa [dcV] using ha
          rw [← this, e2]; exact h1
        · simp [dcV] at hn
      · rw [valV_neg (p := (Sum.inl i, v0)) fun z => q (Sum.inl.inj z)]
        have : dcV ((i, a0) :: l) k = dcV l k := by simp [dcV, q]
        rw [this]; exact ⟨a1, a2⟩
  | [], _ :: _, _, h => by cases h
  | _ :: _, [], _, h => by cases h
theorem rk_len : ∀ {fs : List (Key × V)} {ds : List (D × D)}, RpK K C F fs ds → fs.length = ds.length
  | _, _, .nil => rfl
  | _, _, .cons _ t => congrArg (· + 1) (rk_len t)
theorem rk_map : ∀ {fs : List (Key × V)} {l : List (Int × α)} (k : Int) {v : V} {a : α}, RpK K C F fs (l.map fun p => (en p.1, en p.2)) → Rp K C F v (en a) →
    RpK K C F (fs.map fun kv => if kv.1 = Sum.inl k then (kv.1, v) else kv) ((l.map fun p => if p.1 = k then (p.1, a) else p).map fun p => (en p.1, en p.2))
  | [], [], _, _, _, _, _ => .nil
  | (k0, v0) :: fs, (i, a0) :: l, k, v, a, h, hv => by
    rw [List.map_cons] at h
    generalize he : ((en i, en a0) : D × D) = p0 at h
    cases h with
    | cons h1 h2 =>
      have e1 : keyD k0 = .int i := (Prod.mk.inj he).1.symm
      have e2 := (Prod.mk.inj he).2
      have ek : k0 = Sum.inl i := by
        cases k0 with
        | inl x => have e1 : PyData.int x = .int i := e1; cases e1; rfl
        | inr x => have e1 : PyData.str x = .int i := e1; cases e1
      subst ek
      have ih := rk_map k h2 hv
      rw [List.map_cons, List.map_cons, List.map_cons]
      by_cases q : i = k
      · subst q
        rw [if_pos rfl, if_pos rfl]
        exact .cons (k := Sum.inl i) hv ih
      · rw [if_neg fun z => q (Sum.inl.inj z), if_neg q]
        refine RpK.cons (k := Sum.inl i) ?_ ih
        rw [e2]; exact h1
  | [], _ :: _, _, _, _, h, _ => by cases h
  | _ :: _, [], _, _, _, h, _ => by cases h
theorem rk_app : ∀ {fs gs : List (Key × V)} {ds es : List (D × D)}, RpK K C F fs ds → RpK K C F gs es → RpK K C F (fs ++ gs) (ds ++ es)
  | _, _, _, _, .nil, h => h
  | _, _, _, _, .cons a b, h => .cons a (rk_app b h)
theorem any_find : ∀ (l : List (Int × α)) (k : Int), (l.any fun p => decide (p.1 = k)) = (l.find? fun p => decide (p.1 = k)).isSome
  | [], _ => rfl
  | p :: l, k => by
    rw [List.any_cons, List.find?_cons]
    by_cases q : p.1 = k
    · simp [q]
    · rw [decide_eq_false q, Bool.false_or]; exact any_find l k
theorem rk_put {fs : List (Key × V)} {l : List (Int × α)} (k : Int) {v : V} {a : α} (h : RpK K C F fs (l.map fun p => (en p.1, en p.2))) (hv : Rp K C F v (en a)) : RpK K C F (putK fs (Sum.inl k) v) ((dcPut l k a).map fun p => (en p.1, en p.2)) := by
  have e : (fs.any fun kv => decide (kv.1 = Sum.inl k)) = (l.any fun p => decide (p.1 = k)) := by
    obtain ⟨a1, a2⟩ := rk_v k h
    rw [valV_any]
    have : (l.any fun p => decide (p.1 = k)) = (dcV l k).isSome := by
      unfold dcV
      rw [Option.isSome_map]
      exact any_find l k
    rw [this]
    cases z : dcV l k with
    | none => rw [a2 z]; rfl
    | some b => obtain ⟨v', e', _⟩ := a1 b z; rw [e']; rfl
  unfold putK dcPut
  rw [e]
  split
  · exact rk_map k h hv
  · rw [List.map_append]
    exact rk_app h (.cons (k := Sum.inl k) hv .nil)
theorem OwK.toRp : ∀ {fs : List (Key × V)} {ds : List (D × D)} {fp : List Addr}, OwK K C F H .frz fs ds fp → fp = [] ∧ RpK K C F fs ds
  | _, _, _, .nil => ⟨rfl, .nil⟩
  | _, _, _, .cons a b _ => by
    obtain ⟨e, r⟩ := a.toRp
    obtain ⟨e', r'⟩ := OwK.toRp b
    subst e e'
    exact ⟨rfl, .cons r r'⟩
theorem OwK.ofRp : ∀ {fs : List (Key × V)} {ds : List (D × D)}, RpK K C F fs ds → OwK K C F H .frz fs ds []
  | _, _, .nil => .nil
  | _, _, .cons a b => .cons (fp := []) (fq := []) (.fz a) (OwK.ofRp b) (fun _ h => nomatch h)
/-- what stands for a dict of ints -/
theorem rp_dc {v : V} {d : Dc Int α} (h : Rp K C F v (en d)) : ∃ a fs, v = .ref a ∧ Rd F a (.dK fs) ∧ RpK K C F fs (d.l.map fun p => (en p.1, en p.2)) := by
  have h : Rp K C F v (.dict (d.l.map fun p => (en p.1, en p.2))) := h
  generalize he : (d.l.map fun p => ((en p.1, en p.2) : D × D)) = kvs at h
  cases h with
  | dic h1 h2 => exact ⟨_, _, rfl, h1, h2⟩
  | obj h0 h1 h2 =>
    cases hl : d.l with
    | nil => rw [hl] at he; cases he
    | cons p l =>
      rw [hl, List.map_cons] at he
      have := (Prod.mk.inj (List.cons.inj he).1).1
      cases this
  | exn h1 =>
    cases hl : d.l with
    | nil => rw [hl] at he; cases he
    | cons p l =>
      rw [hl, List.map_cons] at he
      have := (Prod.mk.inj (List.cons.inj he).1).1
      cases this
theorem ow_dc {v : V} {d : Dc Int α} {fp : List Addr} (h : Ow K C F H (.dic .frz) v (en d) fp) : ∃ a fs, v = .ref a ∧ H a = some (.dK fs) ∧ fp = [a] ∧ RpK K C F fs (d.l.map fun p => (en p.1, en p.2)) := by
  have h : Ow K C F H (.dic .frz) v (.dict (d.l.map fun p => (en p.1, en p.2))) fp := h
  generalize he : (d.l.map fun p => ((en p.1, en p.2) : D × D)) = kvs at h
  cases h with
  | sc z _ => cases z
  | dic h1 h2 h3 =>
    obtain ⟨e, r⟩ := h2.toRp
    subst e
    exact ⟨_, _, rfl, h1, rfl, r⟩
end
section
variable {X : Cx} {W : Vp} {E : L2.St → XK} {ρ : Env} {o e b : Expr} {pos pos' : Pos} {i : Nat} {α β : Type} [En α] {r : Option V} {out : β → Out} {rest : List Stmt}
theorem te_dnew : VE X W E ρ (.dic .frz) (.Dict [] [] pos) (.ok (⟨[]⟩ : Dc Int α)) := pe_dnewK.wk fun σ H Q ⟨H0, F, k, q⟩ p hp => by
  refine okH q (.ref p) _ F [p] (same_upd hp) (Ext.refl F H) (k.sub.trans (same_upd hp)) (.dic (kvs := []) upd_same .nil (by simp)) fun a ha => ?_
  rw [List.mem_singleton.mp ha]; exact ⟨hp, none_back k.sub hp⟩
theorem te_dget {m : R (Dc Int α)} {n : R Int} (hu : X.A.units + 1 < cLine) (ho : VE X W E ρ .frz o m) (hb : VE X W E ρ .frz b n) (hs : NoSl b := by exact fun _ _ => rfl) : VE X W E ρ .frz (.Subscript o b pos) (m.bind fun d => n.bind fun k => dgetR d k) :=
  (pe_dget hu ho hb hs).wk fun σ H Q ⟨H0, F, k, q⟩ => ⟨H0, F, k, (hd_bind q).imp fun d q1 v H1 F1 fp s1 x1 f1 w1 _ => ⟨H0, F1, k.grow s1 x1 f1, ((hd_bind q1).heap s1).imp fun j q2 u H2 F2 fq s2 x2 f2 w2 _ => by
    have ej := int_rp w2.toRp.2
    subst ej
    obtain ⟨a, fs, rfl, ha, hr⟩ := rp_dc (w1.toRp.2.up x2.up)
    unfold dgetR at q2
    obtain ⟨g1, g2⟩ := rk_v j hr
    cases hj : dcV d.l j with
    | none => rw [hj] at q2; exact q2.elim
    | some y =>
      rw [hj] at q2
      obtain ⟨z, e1, e2⟩ := g1 y hj
      exact ⟨a, z, rfl, .inl ⟨fs, Sum.inl j, rd_mono f2 ha, rfl, e1.symm⟩, okH q2 z H2 F2 [] (s1.trans s2) (x1.trans s1 x2) f2 (.fz e2) fun x hx => nomatch hx⟩⟩⟩
theorem te_din {m : R Int} {n : R (Dc Int α)} (hu : X.A.units + 1 < cLine) (ha : VE X W E ρ .frz e m) (hb : VE X W E ρ .frz b n) (h1 : behindInMarks .In b = false := by rfl) : VE X W E ρ .frz (.Compare e [.In] [b] pos) (m.bind fun k => n.bind fun d => .ok (dcV d.l k).isSome) :=
  (pe_cmp (pc_din hu ha hb) h1).wk fun σ H Q ⟨H0, F, k, q⟩ => ⟨H0, F, k, (hd_bind q).imp fun j q1 v H1 F1 fp s1 x1 f1 w1 _ => ⟨H0, F1, k.grow s1 x1 f1, ((hd_bind q1).heap s1).imp fun d q2 u H2 F2 fq s2 x2 f2 w2 _ => by
    have ej := int_rp w1.toRp.2
    subst ej
    obtain ⟨a, fs, rfl, ha, hr⟩ := rp_dc w2.toRp.2
    obtain ⟨g1, g2⟩ := rk_v j hr
    have e : (valV fs (Sum.inl j)).isSome = (dcV d.l j).isSome := by
      cases hj : dcV d.l j with
      | none => rw [g2 hj]; rfl
      | some y => obtain ⟨z, e1, _⟩ := g1 y hj; rw [e1]; rfl
    exact ⟨a, _, rfl, .inl ⟨fs, Sum.inl j, rd_mono f2 ha, rfl, rfl⟩, by rw [e]; exact okH q2 _ H2 F2 [] (s1.trans s2) (x1.trans s1 x2) f2 (.fz (.bl _)) fun x hx => nomatch hx⟩⟩⟩
theorem vt_din {m : R Int} {n : R (Dc Int α)} (hu : X.A.units + 1 < cLine) (ha : VE X W E ρ .frz e m) (hb : VE X W E ρ .frz b n) (h1 : behindInMarks .In b = false := by rfl) : VT X W E ρ (.Compare e [.In] [b] pos) (m.bind fun k => n.bind fun d => .ok (dcV d.l k).isSome) :=
  (pt_cmp (pc_din hu ha hb) h1).wk fun σ H Q ⟨H0, F, k, q⟩ => ⟨H0, F, k, (hd_bind q).imp fun j q1 v H1 F1 fp s1 x1 f1 w1 _ => ⟨H0, F1, k.grow s1 x1 f1, ((hd_bind q1).heap s1).imp fun d q2 u H2 F2 fq s2 x2 f2 w2 _ => by
    have ej := int_rp w1.toRp.2
    subst ej
    obtain ⟨a, fs, rfl, ha, hr⟩ := rp_dc w2.toRp.2
    obtain ⟨g1, g2⟩ := rk_v j hr
    have e : (valV fs (Sum.inl j)).isSome = (dcV d.l j).isSome := by
      cases hj : dcV d.l j with
      | none => rw [g2 hj]; rfl
      | some y => obtain ⟨z, e1, _⟩ := g1 y hj; rw [e1]; rfl
    exact ⟨a, _, rfl, .inl ⟨fs, Sum.inl j, rd_mono f2 ha, rfl, rfl⟩, _, rfl, by rw [e]; exact okH q2 H2 (s1.trans s2)⟩⟩⟩
theorem tb_dput {d : Dc Int α} {me : R α} {mk : R Int} {m' : R (Dc Int α)} {k : Dc Int α → R β} (h : PS X (.Assign [.Subscript o b pos'] e pos) (sDPut (tVar i) (tE X.K W E X.N.length ρ .frz mk) (tE X.K W E X.N.length ρ .frz me))) (q : (me.bind fun x => mk.bind fun j => dputR d j x) = m') (hr : ∀ z, VB X W E (se ρ i (.vl (.ow (.dic .frz) r) (en z))) rest (k z) out) (hi : ρ i = .vl (.ow (.dic .frz) r) (en d) := by rfl) :
    VB X W E ρ (.Assign [.Subscript o b pos'] e pos :: rest) (m'.bind k) out := by
  subst q
  simp only [R.bind_assoc]
  refine (pss_cons h (pss_any hr)).wk fun De σ H ⟨H0, F0, F, kk, x, q⟩ => ?_
  refine ⟨H0, F, kk, ((hds_bind q).hd σ kk.same).imp fun y q1 u H1 F1 fq s1 x1 f1 w1 _ => ?_⟩
  obtain ⟨v, fp, ow⟩ := kk.own hi
  refine ⟨v, ow.at_, H0, F1, kk.grow s1 x1 f1, ((hds_bind q1).hd σ (kk.same.trans s1)).imp fun j q2 t H2 F2 _ s2 x2 f2 w2 _ => ?_⟩
  have ej := int_rp w2.toRp.2
  subst ej
  obtain ⟨a, fs, ev, ha, efp, hrk⟩ := ow_dc ow.ow
  subst ev
  have q2 := hds_bind q2
  unfold dputR at q2
  by_cases hz : d.l.length < big
  case neg => rw [if_neg hz] at q2; exact q2.elim
  rw [if_pos hz] at q2
  have s12 := s1.trans s2
  have x12 := x1.trans s1 x2
  have ll := rk_len hrk
  rw [List.length_map] at ll
  have r2 : RpK X.K W.rc F2 fs (d.l.map fun p => (en p.1, en p.2)) := RpK.mono x12.up _ _ hrk
  have rv := rk_put j r2 (w1.toRp.2.up x2.up)
  have aF : F2 a = none := by
    obtain ⟨o', e'⟩ := ow.ow.live a (by rw [efp]; exact List.mem_cons_self)
    exact x12.out e' (ow.fre a (by rw [efp]; exact List.mem_cons_self)).1
  refine ⟨a, _, rfl, DPut.k (k := Sum.inl j) (s12 _ _ ha) (Nat.lt_of_lt_of_le (by omega) big_le), ⟨dcPut d.l j y⟩, H0, F0, F2, ?_, x.trans kk.same x12, q2⟩
  refine fld_put (C := 0) (dx := 0) (fs := []) (fq := []) (y := .non) kk ow s12 x12 f2 (.dK (putK fs (Sum.inl j) u)) (by rw [efp]; exact List.mem_cons_self) (fr := [a]) (.dic upd_same (OwK.ofRp rv) (by simp)) fun b hb => .inl (by rw [efp]; exact hb)
end
end Tx
namespace Tx
theorem Rm.u1 {k : Nat} {A : PySem.Around} (r : Rm k A) : A.units + 1 < PySem.cLine := by have := r.rep; omega
end Tx

set_option Elab.async false
set_option linter.all false
set_option maxRecDepth 100000
set_option maxHeartbeats 4000000
/-! A24: values of several forms (unions). -/
namespace Tx
open PySem L2 PyProof.Rows En EnL
section
variable {X : Cx} {W : Vp} {E : L2.St → XK} {ρ : Env} {a b : Expr} {pos : Pos} {α β γ : Type} [En α] [En β] [En γ]
theorem te_prjR {m : R α} {i : Int} (f : α → R β) (ha : VE X W E ρ .frz a m) (hb : VE X W E ρ .frz b (.ok i)) (hf : ∀ x, (∃ y, f x = .ok y ∧ ixD (en x) (.int i) = .ok (en y)) ∨ f x = .no) (hs : PlainIx b := by exact fun _ _ => rfl) : VE X W E ρ .frz (.Subscript a b pos) (m.bind f) :=
  (pe_ix ix_seq ha hb hs).wk fun σ H Q ⟨H0, F, k, q⟩ => ⟨H0, F, k, (hd_bind q).imp fun d1 q1 v H1 F1 fp s1 x1 f1 w1 _ => ⟨H0, F1, k.grow s1 x1 f1, fun u H2 F2 fq s2 x2 f2 w2 _ => by
    refine o2_ix W (E σ) F2 H2 v u (en d1) (.int i) Q f2 (w1.toRp.2.up x2.up) w2.toRp.2 ?_
    rcases hf d1 with ⟨y, e1, e2⟩ | e1
    · rw [e1] at q1
      rw [e2]
      exact (q1.step (s1.trans s2) (x1.trans s1 x2)).vp
    · rw [e1] at q1
      exact q1.elim⟩⟩
end
end Tx

set_option Elab.async false
set_option linter.all false
set_option maxRecDepth 100000
set_option maxHeartbeats 4000000
/-! A25: any of ints, max of ints, xs[::-1]. -/
namespace Tx
open PySem L2 PyProof.Rows En EnL
theorem truth_ints {prog : Program} {w : World} {A : Around} {ns : List Int} {its : List Value} (r : Vals (ns.map V.int) its) :
    TruthOf prog w A (fun i v => its.toArray[i]? = some v) (fun i => (ns.map fun x : Int => x != 0).getD i false) := by
  intro i v s Q E hv hq
  have hv' : its[i]? = some v := by simpa using hv
  have key : ∀ {ns : List Int} {its : List Value} (_ : Vals (ns.map V.int) its) (i : Nat), its[i]? = some v → ∃ n t, v = .int n t ∧ ns[i]? = some n := by
    intro ns
    induction ns with
    | nil => intro its r i hi; cases r; cases hi
    | cons n ns ih =>
      intro its r i hi
      cases r with
      | cons r0 r1 =>
        obtain ⟨t, rfl⟩ := r0
        cases i with
        | zero => simp at hi; exact ⟨n, t, hi.symm, rfl⟩
        | succ i => simp at hi; obtain ⟨m, u, a, b⟩ := ih r1 i hi; exact ⟨m, u, a, by simpa using b⟩
  obtain ⟨n, t, rfl, hn⟩ := key r i hv'
  have hg : (ns.map fun x : Int => x != 0).getD i false = (n != 0) := by rw [List.getD_eq_getElem?_getD, List.getElem?_map, hn]; rfl
  have hq' : Q ((ns.map fun x : Int => x != 0).getD i false) s := hq
  rw [hg] at hq'
  exact PySem.P.truthy_int hq'
section
variable {X : Cx}
def rAnyI (K : PySem.W.Frag) : List V → Hp → VK → Prop := fun vs H Q => ∃ (a : Addr) (ns : List Int), vs = [V.ref a] ∧ SqL K H a (ns.map V.int) ∧ Q (.bl (ns.any fun x => x != 0)) H
theorem cr_anyI (hc : X.calm = true) : CallR X (.builtin "any") (rAnyI X.K) := by
  intro pins s σ H vs us Q I r h
  obtain ⟨a, ns, rfl, hs, q⟩ := h
  obtain ⟨its, rv, hl, _⟩ := I.list hs
  rw [Vals.ref1 r]
  refine call_any_walk (iter_any hl.isList fun s₂ e2 st hne => ?_)
  subst e2
  refine ⟨_, _, _, _, _, _, _, rfl, Walks.list (A := X.A.in1) (I.ok.hd hc) _ a hne its.toArray, st, truth_ints rv, fun h' tk hk => ?_⟩
  refine ⟨.bl _, H, I.kept fun b o eo => hk b o (fun hmem => ?_) (Heap.get?_push_of_some _ eo), ?_, q⟩
  · rcases List.mem_cons.mp hmem with e1 | hmem
    · exact absurd (e1 ▸ Heap.lt_size eo) (Nat.lt_irrefl _)
    · cases hmem
  · show Value.bool _ = Value.bool _
    have := any_range (ns.map fun x : Int => x != 0)
    rw [List.any_map, List.length_map] at this
    rw [List.size_toArray, ← rv.length, List.length_map]
    exact congrArg Value.bool this
end
def fAnyI : List D → R D
  | [.list xs] => (match asInts xs with
    | some bs => .ok (.bool (bs.any fun x => x != 0))
    | none => .no)
  | _ => .no
def fMaxL : List D → R D
  | [.list xs] => (match asInts xs with
    | some (n :: ns) => .ok (.int (ns.foldl (fun a b => max a b) n))
    | _ => .no)
  | _ => .no
section
variable {K : PySem.W.Frag}
theorem ca_anyI : CaD K (rAnyI K) fAnyI := ca_one (fun W E F H v d Q s r m => by
  cases r with
  | lst h1 h2 =>
    rename_i a xs ds
    have m : Hd E W H (match asInts ds with | some ns => R.ok (.bool (ns.any fun x => x != 0)) | none => .no) (VPost K W F H Q) := m
    cases q : asInts ds with
    | none => rw [q] at m; exact False.elim m
    | some ns =>
      rw [q] at m
      exact ⟨a, ns, rfl, sqr_l (by rw [← h2.ofIntsD q]; exact sqr_mono s h1), m _ H F (Same.refl H) (Ext.refl F H) s (.bl _)⟩
  | _ => exact False.elim m) fun ds z => not_one (g := fAnyI) (f := fun d => fAnyI [d]) (fun _ => rfl) rfl (fun a b r => by cases a <;> rfl) z
theorem foldmax_ge : ∀ (ns : List Int) (n : Int), n ≤ ns.foldl (fun a b => max a b) n ∧ ∀ y ∈ ns, y ≤ ns.foldl (fun a b => max a b) n
  | [], n => ⟨Int.le_refl n, by simp⟩
  | x :: ns, n => by
    obtain ⟨h1, h2⟩ := foldmax_ge ns (max n x)
    refine ⟨Int.le_trans (Int.le_max_left ..) h1, fun y hy => ?_⟩
    rcases List.mem_cons.mp hy with rfl | hy
    · exact Int.le_trans (Int.le_max_right ..) h1
    · exact h2 y hy
theorem foldmax_mem : ∀ (ns : List Int) (n : Int), ns.foldl (fun a b => max a b) n ∈ n :: ns
  | [], n => by simp
  | x :: ns, n => by
    have := foldmax_mem ns (max n x)
    show ns.foldl (fun a b => max a b) (max n x) ∈ _
    rcases List.mem_cons.mp this with e | e
    · rw [e]
      rcases Int.le_total n x with q | q
      · rw [Int.max_eq_right q]; simp
      · rw [Int.max_eq_left q]; simp
    · simp [e]
theorem ca_maxL : CaD K (rMax K) fMaxL := ca_one (fun W E F H v d Q s r m => by
  cases r with
  | lst h1 h2 =>
    rename_i a xs ds
    have m : Hd E W H (match asInts ds with | some (n :: ns) => R.ok (.int (ns.foldl (fun a b => max a b) n)) | _ => .no) (VPost K W F H Q) := m
    cases q : asInts ds with
    | none => rw [q] at m; exact False.elim m
    | some ms =>
      cases ms with
      | nil => rw [q] at m; exact False.elim m
      | cons n ns =>
        rw [q] at m
        refine ⟨a, n :: ns, rfl, sqr_l (by rw [← h2.ofIntsD q]; exact sqr_mono s h1), by simp, fun k hk hm => ?_⟩
        have e : k = ns.foldl (fun a b => max a b) n := by
          obtain ⟨g1, g2⟩ := foldmax_ge ns n
          have a1 := hm _ (foldmax_mem ns n)
          have a2 : k ≤ ns.foldl (fun a b => max a b) n := by
            rcases List.mem_cons.mp hk with rfl | hk
            · exact g1
            · exact g2 k hk
          omega
        rw [e]
        exact m _ H F (Same.refl H) (Ext.refl F H) s (.int _)
  | _ => exact False.elim m) fun ds z => not_one (g := fMaxL) (f := fun d => fMaxL [d]) (fun _ => rfl) rfl (fun a b r => by cases a <;> rfl) z
end
def gAnyI (x : List Int × Unit) : R Bool := .ok (x.1.any fun y => y != 0)
theorem hAnyI (x : List Int × Unit) : fAnyI (enl x) = (gAnyI x).map en := by
  show (match asInts (x.1.map en) with | some ns => R.ok (PyData.bool (ns.any fun y => y != 0)) | none => .no) = _
  rw [asInts_map]; rfl
/-- the greatest; no word where there is none -/
def maxLR : List Int → R Int
  | [] => .no
  | n :: ns => .ok (ns.foldl (fun a b => max a b) n)
def gMaxL (x : List Int × Unit) : R Int := maxLR x.1
theorem hMaxL (x : List Int × Unit) : fMaxL (enl x) = (gMaxL x).map en := by
  show (match asInts (x.1.map en) with | some (n :: ns) => R.ok (PyData.int (ns.foldl (fun a b => max a b) n)) | _ => .no) = _
  rw [asInts_map]
  obtain ⟨l, u⟩ := x
  cases l <;> rfl
theorem q_gAnyI (x : List Int × Unit) : gAnyI x = .ok (x.1.any fun y => y != 0) := Eq.trans rfl rfl
theorem q_gMaxL (x : List Int × Unit) : gMaxL x = maxLR x.1 := Eq.trans rfl rfl
section
variable {X : Cx} {W : Vp} {E : L2.St → XK} {ρ : Env} {e : Expr} {k : Nat} {p1 p2 p3 pos : Pos} {α : Type} [En α]
theorem te_rsl {m : R (List α)} (he : VE X W E ρ .frz e m) : VE X W E ρ (.lst .frz) (.Subscript e (.Slice none none (some (.UnaryOp .USub (.Constant (.int 1) k p1) p2)) p3) pos) (m.map List.reverse) :=
  (pe_revL he).wk fun σ H Q ⟨H0, F, k, q⟩ => ⟨H0, F, k, (hd_map q).imp fun d m1 v H1 F1 fp s1 x1 f1 w1 _ => by
    have r1 := w1.toRp.2
    cases r1 with
    | lst h1 h2 => exact ⟨_, _, rfl, sqr_l (sqr_mono f1 h1), fun p hp => m1.np p _ _ _ F1 (show en d.reverse = .list (d.map en).reverse by rw [← List.map_reverse]; rfl) (s1.trans (same_upd hp)) x1 (f1.trans (same_upd hp)) (none_back s1 hp) (none_back f1 hp) upd_same h2.rev⟩⟩
end
end Tx

set_option Elab.async false
set_option linter.all false
set_option maxRecDepth 100000
set_option maxHeartbeats 4000000
/-! A26: bit_length. -/
namespace Tx
open PySem L2 PyProof.Rows En EnL
def bitsI (i : Int) : Int := ((Builtin.Int.intBits i : Nat) : Int)
section
variable {X : Cx} {W : Vp} {E : L2.St → XK} {ρ : Env} {e : Expr} {pos apos : Pos}
theorem te_bits {m : R Int} (he : VE X W E ρ .frz e m) (hbase : attributeBase e "bit_length" X.env (eval e X.env) = eval e X.env := by rfl) (hline : (apos.endLine == pos.line) = true := by rfl) : VE X W E ρ .frz (.Call (.Attribute e "bit_length" apos) [] [] pos) (m.bind fun i => .ok (bitsI i)) :=
  (pe_bits he hbase hline).wk fun σ H Q ⟨H0, F, k, q⟩ => ⟨H0, F, k, (hd_bind q).imp fun d m1 v H1 F1 fp s1 x1 f1 w1 _ => by
    have r1 := w1.toRp.2
    cases r1 with
    | int i => exact ⟨_, rfl, okH m1 _ H1 F1 [] s1 x1 f1 (.fz (.int _)) fun x hx => nomatch hx⟩⟩
theorem vr_dget {α : Type} [En α] {o b : Expr} {b0 : Bool} {m : R (Dc Int α)} {n : R Int} (hu : X.A.units + 1 < cLine) (ho : VR X W E ρ b0 (.dic .frz) o m) (hb : VE X W E ρ .frz b n) (hs : NoSl b := by exact fun _ _ => rfl) : VE X W E ρ .frz (.Subscript o b pos) (m.bind fun d => n.bind fun k => dgetR d k) :=
  (pe_dget hu ho hb hs).wk fun σ H Q ⟨H0, F, k, q⟩ => ⟨H0, F, k, (hd_bind q).imp fun d q1 v H1 F1 fp s1 x1 f1 w1 _ => ⟨H0, F1, k.grow s1 x1 f1, ((hd_bind q1).heap s1).imp fun j q2 u H2 F2 fq s2 x2 f2 w2 _ => by
    have ej := int_rp w2.toRp.2
    subst ej
    obtain ⟨a, fs, rfl, ha, _, hr0⟩ := ow_dc w1
    have hr := RpK.mono x2.up _ _ hr0
    unfold dgetR at q2
    obtain ⟨g1, g2⟩ := rk_v j hr
    cases hj : dcV d.l j with
    | none => rw [hj] at q2; exact q2.elim
    | some y =>
      rw [hj] at q2
      obtain ⟨z, e1, e2⟩ := g1 y hj
      exact ⟨a, z, rfl, .inl ⟨fs, Sum.inl j, .inl (s2 _ _ ha), rfl, e1.symm⟩, okH q2 z H2 F2 [] (s1.trans s2) (x1.trans s1 x2) f2 (.fz e2) fun x hx => nomatch hx⟩⟩⟩
end
end Tx

set_option Elab.async false
set_option linter.all false
set_option maxRecDepth 100000
set_option maxHeartbeats 4000000
/-! A27: is of bools; slices of tuples; data read as lists and tuples. -/
namespace Tx
open PySem L2 PyProof.Rows En EnL
def cIsB (x y : Bool) : R Bool := .ok (decide (x = y))
theorem hIsB (x y : Bool) : isBoolD (en x) (en y) = (cIsB x y).map en := rfl
theorem q_cIsB (x y : Bool) : cIsB x y = .ok (decide (x = y)) := Eq.trans rfl rfl
def gLenF {α : Type} (f : α → Int) (x : α × Unit) : R Int := .ok (f x.1)
theorem q_gLenF {α : Type} (f : α → Int) (x : α × Unit) : gLenF f x = .ok (f x.1) := Eq.trans rfl rfl
def unLD : D → R (List D)
  | .list xs => .ok xs
  | _ => .no
def unTD : D → R (Tu D)
  | .tuple xs => .ok ⟨xs⟩
  | _ => .no
theorem unLD_h (a : D) : (∃ b, unLD a = .ok b ∧ en b = en a) ∨ unLD a = .no := by
  cases a with
  | list xs => exact .inl ⟨xs, rfl, by show PyData.list (xs.map en) = .list xs; congr 1; exact List.map_id' xs⟩
  | _ => exact .inr rfl
theorem unTD_h (a : D) : (∃ b, unTD a = .ok b ∧ en b = en a) ∨ unTD a = .no := by
  cases a with
  | tuple xs => exact .inl ⟨⟨xs⟩, rfl, by show PyData.tuple (xs.map en) = .tuple xs; congr 1; exact List.map_id' xs⟩
  | _ => exact .inr rfl
/-- a slice of a tuple that is not all of it -/
def cutT {α : Type} (t : Tu α) (lo hi : Option Int) : R (Tu α) := if sIxV t.l.length 0 lo = 0 ∧ sIxV t.l.length t.l.length hi = t.l.length then .no else .ok ⟨cutL t.l lo hi⟩
section
variable {X : Cx} {W : Vp} {E : L2.St → XK} {ρ : Env} {e : Expr} {pos p2 : Pos} {α : Type} [En α]
theorem vn_slT {m : R (Tu α)} {lo hi : Option Expr} {gl gh : R (Option Int)} (he : VE X W E ρ .frz e m) (hl : VO X W E ρ lo gl) (hh : VO X W E ρ hi gh) : VE X W E ρ .frz (.Subscript e (.Slice lo hi none p2) pos) (m.bind fun xs => gl.bind fun i => gh.bind fun j => cutT xs i j) :=
  (pe_slice sl_tup he hl hh).wk fun σ H Q ⟨H0, F, k, q⟩ =>
    ⟨H0, F, k, (hd_bind q).imp fun d m1 v H1 F1 fp s1 x1 f1 w1 _ => ⟨H0, F1, k.grow s1 x1 f1, ((hd_bind m1).heap s1).imp fun a m2 H2 F2 s2 x2 f2 =>
      ⟨H0, F2, (k.grow s1 x1 f1).grow s2 x2 f2, ((hd_bind m2).heap (s1.trans s2)).imp fun b m3 H3 F3 s3 x3 f3 => by
        have r1 := w1.toRp.2
        cases r1 with
        | @tup p0 vs ds h1 h2 =>
          have f13 : Same F1 F3 := x2.up.trans x3.up
          have s13 := (s1.trans s2).trans s3
          have l := h2.len
          have e1 : ∀ n d o, HT.sIx n d o = sIxV n d o := fun n d o => by cases o <;> rfl
          unfold cutT at m3
          by_cases c : sIxV d.l.length 0 a = 0 ∧ sIxV d.l.length d.l.length b = d.l.length
          · rw [if_pos c] at m3; exact m3.elim
          · rw [if_neg c] at m3
            have l2 : vs.length = d.l.length := by rw [l, List.length_map]
            refine ⟨_, _, rfl, sqt_mono (f13.trans f3) h1, by rw [e1, e1, l2]; exact c, fun p hp => ?_⟩
            have eq : en (⟨cutL d.l a b⟩ : Tu α) = .tuple (cutL (d.l.map en) a b) := by rw [cutL_map]; rfl
            refine okH m3 (.ref p) _ (upd F3 p (.tup _)) [] (s13.trans (same_upd hp)) (((x1.trans s1 x2).trans (s1.trans s2) x3).trans s13 (Ext.one hp f3)) (same_upd2 f3) ?_ fun x hx => nomatch hx
            rw [eq]
            exact .fz (.tup (SqT.of upd_same) (cutV_rp (h2.up (f13.trans (Ext.one hp f3).up)) a b))⟩⟩⟩
end
end Tx

set_option Elab.async false
set_option linter.all false
set_option maxRecDepth 100000
set_option maxHeartbeats 4000000
/-! A28: is not of bools. -/
namespace Tx
open PySem L2 PyProof.Rows En EnL
def isNotBD : D → D → R D
  | .bool a, .bool b => .ok (.bool (!decide (a = b)))
  | _, _ => .no
theorem o2_notB {K : PySem.W.Frag} : OpD K rNotB isNotBD := fun W E F H x y d1 d2 Q s r1 r2 m => by
  cases r1 with
  | bl a =>
    cases r2 with
    | bl b => exact ⟨a, b, rfl, rfl, m _ H F (Same.refl H) (Ext.refl F H) s (.bl _)⟩
    | _ => exact False.elim m
  | _ => cases r2 <;> exact False.elim m
def cNotB (x y : Bool) : R Bool := .ok (!decide (x = y))
theorem hNotB (x y : Bool) : isNotBD (en x) (en y) = (cNotB x y).map en := rfl
theorem q_cNotB (x y : Bool) : cNotB x y = .ok (!decide (x = y)) := Eq.trans rfl rfl
section
variable {X : Cx} {W : Vp} {E : L2.St → XK} {ρ : Env} {st : Stmt} {rest : List Stmt} {α γ β : Type} [En α] [En γ] {out : β → Out} {i j : Nat}
theorem va_eq {A : Type} [EnL A] {es : List Expr} {s : Sh} {m m' : R A} (h : VA X W E ρ s es m) (q : m = m') : VA X W E ρ s es m' := q ▸ h
/-- a, b = x, y -/
theorem vb_par {mA : R (α × γ × Unit)} {k : α × γ × Unit → R β} (h : PS X st (tPar i j (tA X.K W E X.N.length ρ .frz mA))) (hr : ∀ a, VB X W E (se (se ρ i (.vl .fz (en a.1))) j (.vl .fz (en a.2.1))) rest (k a) out) (hi : Nat.blt i X.N.length = true := by rfl) (hj : Nat.blt j X.N.length = true := by rfl) : VB X W E ρ (st :: rest) (mA.bind k) out :=
  (pss_cons h (pss_any hr)).wk fun De σ H ⟨H0, F0, F, kk, x, q⟩ => ⟨H0, F, kk, ((hds_bind q).hd σ kk.same).imp fun a q vs H1 F1 fp s1 x1 f1 w _ => by
    have r : RpA X.K W.rc F1 vs [en a.1, en a.2.1] := w.toRp.2
    cases r with
    | cons r1 r2 =>
      cases r2 with
      | cons r2 r3 =>
        cases r3
        exact ⟨_, _, rfl, a, H0, F0, F1, ((kk.grow s1 x1 f1).set (Nat.le_of_ble_eq_true hi) r1).set (Nat.le_of_ble_eq_true hj) r2, x.trans kk.same x1, q⟩⟩
end
end Tx

set_option Elab.async false
set_option linter.all false
set_option maxRecDepth 100000
set_option maxHeartbeats 4000000
/-! A29: membership of lists in lists (one way of deciding it). -/
namespace Tx
open PySem L2 PyProof.Rows En EnL
def memD {α : Type} [DecidableEq α] (x : α) (l : List α) : Bool := decide (x ∈ l)
def nmemD {α : Type} [DecidableEq α] (x : α) (l : List α) : Bool := decide (x ∉ l)
theorem memD_iff {α : Type} [DecidableEq α] {x : α} {l : List α} : memD x l = true ↔ x ∈ l := by unfold memD; exact decide_eq_true_iff
theorem nmemD_iff {α : Type} [DecidableEq α] {x : α} {l : List α} : nmemD x l = true ↔ x ∉ l := by unfold nmemD; exact decide_eq_true_iff
end Tx

set_option Elab.async false
set_option linter.all false
set_option maxRecDepth 100000
set_option maxHeartbeats 4000000
/-! A30: try: a call; except c as e: a suite that returns. -/
namespace Tx
open PySem L2 PyProof.Rows En EnL
def exnD (n : Nat) : D := .dict [(.list [], .int n)]
def Vp.hot (W : Vp) (a : Addr) (n : Nat) : Vp := { W with rc := { W.rc with xa := some (a, n) } }
def tryR {α β : Type} (n : Nat) (m : R α) (f k : R β) : R β := match m with
  | .ok _ => k
  | .ex c => if c = n then (match f with | .ok b => .ok b | _ => .no) else .no
  | .no => .no
theorem tryR_ok {α β : Type} {n : Nat} {a : α} {f k : R β} : tryR n (.ok a) f k = k := Eq.trans rfl rfl
theorem tryR_ex {α β : Type} {n : Nat} {b : β} {k : R β} : tryR (α := α) n (.ex n) (.ok b) k = .ok b := by unfold tryR; exact if_pos rfl
section
variable {K : PySem.W.Frag} {C C' : Rc} {H0 F H : Hp} {L : Nat} {σ : L2.St} {ρ : Env}
theorem EnvS.hot (e : C'.cl = C.cl) (n : C.xa = none) (k : EnvS K C H0 F H L σ ρ) : EnvS K C' H0 F H L σ ρ := by
  obtain ⟨fp, o1, o2⟩ := k.sl
  refine ⟨k.same, k.sub, k.len, fp, fun i m d q => ?_, o2⟩
  obtain ⟨v, h1, h2⟩ := o1 i m d q
  refine ⟨v, h1, ?_⟩
  cases m with
  | fz => exact ⟨h2.1, Rp.hot e n _ _ h2.2⟩
  | bw s r => exact ⟨h2.1, h2.2.1.hot e n, h2.2.2⟩
  | ow s r => exact ⟨h2.1, h2.2.1.hot e n, h2.2.2⟩
theorem sc_rpC {H H' : Hp} {v : V} {d : D} (h : Rp K C H v d) (z : scD d = true) : Rp K C' H' v d := by
  cases h with
  | non => exact .non
  | bl b => exact .bl b
  | int i => exact .int i
  | str y => exact .str y
  | _ => cases z
end
section
variable {X : Cx} {W : Vp} {E : L2.St → XK} {ρ : Env} {st : Stmt} {rest : List Stmt} {α β : Type} [En α] [En β] [Sc β] {m : R α} {f k : R β} {i n : Nat} {c : Value}
def tSuite (K : PySem.W.Frag) (W : Vp) (L : Nat) (ρ : Env) (n : Nat) (f : R β) : Addr → Value → Option Addr → TS := fun a cls d De σ H => cls = .ref (W.ea n) ∧ d = none ∧ tB K (W.hot a n) EN L ρ f (rtOut .frz) De σ H
theorem suite_of {suite : List Stmt} (h : ∀ (a : Addr) (oe : Obj) (pn : List (Addr × Obj)), Zc (.ref (W.ea n)) none oe → (∃ vs, oe.data = .fields vs) → VB (X.suite a ((a, oe) :: pn)) (W.hot a n) EN ρ suite f (rtOut .frz))
    (a : Addr) (oe : Obj) (cls : Value) (d : Option Addr) (pn : List (Addr × Obj)) (hz : Zc cls d oe) (hf : ∃ vs, oe.data = .fields vs) : PSs (X.suite a ((a, oe) :: pn)) suite (tSuite X.K W X.N.length ρ n f a cls d) := ⟨fun pins s σ H De I ⟨e1, e2, q⟩ => by
  subst e1; subst e2
  exact (h a oe pn hz hf).run pins s σ H De I q⟩
theorem vb_try (h : PS X st (fun De σ H => tDrop (tE X.K W (WE (wAs X.K c i (tSuite X.K W X.N.length (se ρ i (.vl .fz (exnD n))) n f) (fun _ _ _ _ => False) De)) X.N.length ρ .frz m) De σ H))
    (hx : W.rc.xa = none) (hi : i < X.N.length) (hc : PySem.W.exmOne X.K (.ref (W.ea n)) c = some true) (h2 : VB X W E ρ rest k (rtOut .frz)) : VB X W E ρ (st :: rest) (tryR n m f k) (rtOut .frz) :=
  (pss_cons h h2).wk fun De σ H ⟨H0, F0, F, kk, x, q⟩ => by
    refine ⟨H0, F, kk, ?_⟩
    unfold tryR at q
    cases m with
    | no => exact q
    | ok a => exact fun v H' F' fp s1 x1 f1 w nn => ⟨H0, F0, F', kk.grow s1 x1 f1, x.trans kk.same x1, q⟩
    | ex c' =>
      by_cases z : c' = n
      case neg =>
        have q : HdS E W H0 (if c' = n then (match f with | .ok b => R.ok b | _ => .no) else .no) _ := q
        rw [if_neg z] at q; exact False.elim q
      subst z
      have q : HdS E W H0 (if c' = c' then (match f with | .ok b => R.ok b | _ => .no) else .no) _ := q
      rw [if_pos rfl] at q
      intro H2 s2
      refine ⟨true, hc, fun _ a ha => ⟨rfl, rfl, H0, F0, F, ?_, x, ?_⟩, fun z => nomatch z⟩
      · have k2 := EnvS.hot (C := W.rc) (C' := (W.hot a c').rc) rfl hx (kk.heap s2)
        exact k2.set hi (.exn rfl)
      · cases f with
        | no => exact False.elim q
        | ex c => exact False.elim q
        | ok b =>
          have q : SPost X.K W X.N.length H0 F0 De (.rt .frz (en b) none) := q
          exact fun v H3 F3 fp y1 y2 y3 y4 y5 => q v H3 F3 [] y1 y2 y3 (.sc (Sc.sc b) (sc_rpC y4.toRp.2 (Sc.sc b))) (fun a h => nomatch h)
theorem vb_tryAs {x nm : Str} {e : Expr} {suite : List Stmt} {b0 : Stmt} {np p1 p2 pos : Pos}
    (hb : ∀ (Wx : WX) (pn : List (Addr × Obj)) (xe : Value → Shared → Prop), Takes (X.tr pn xe) Wx → VE (X.tr pn xe) W (WE Wx) ρ .frz e m)
    (hsu : ∀ (a : Addr) (oe : Obj) (pn : List (Addr × Obj)), Zc (.ref (W.ea n)) none oe → (∃ vs, oe.data = .fields vs) → VB (X.suite a ((a, oe) :: pn)) (W.hot a n) EN (se ρ i (.vl .fz (exnD n))) (b0 :: suite) f (rtOut .frz))
    (h2 : VB X W E ρ rest k (rtOut .frz))
    (hcl : X.mg x = some c) (hx : W.rc.xa = none) (hce : PySem.W.exmOne X.K (.ref (W.ea n)) c = some true) (hN : X.N.Nodup) (hs : X.stack = X.env :: X.outer := by rfl) (hf : X.env.frame = some X.env.locals := by rfl) (hi : X.N[i]? = some nm := by rfl)
    (hln : X.env.kindOf nm = some .local := by rfl) (hg : Gl X x := by rfl) (hd : (x == ("__debug__" : Str)) = false := by decide) (hsw : ∀ pn xe, swapsWith e none p1.line (X.tr pn xe).env = pure false := by intro _ _; rfl) :
    VB X W E ρ (.Try [.Expr e p1] [.ExceptHandler (some (.Name x np)) (some nm) (b0 :: suite) p2] [] [] pos :: rest) (tryR n m f k) (rtOut .frz) :=
  vb_try (ps_try_as (tb := fun Wx => tDrop (tE X.K W (WE Wx) X.N.length ρ .frz m)) (ts := tSuite X.K W X.N.length (se ρ i (.vl .fz (exnD n))) n f) (Wout := fun _ _ _ _ => False) hs hf hN hi hln ⟨hg, hd, .inl hcl⟩ takes0 (fun Wx pn xe tk _ => pss_one (ps_expr (hb Wx pn xe tk) (hsw pn xe))) (suite_of hsu)) hx (List.getElem?_eq_some_iff.mp hi).1 hce h2
end
/-! ### isinstance of what is handled -/
theorem exn_ref {K : PySem.W.Frag} {C : Rc} {H : Hp} {v : V} {n : Nat} (r : Rp K C H v (exnD n)) : ∃ a, v = .ref a ∧ C.xa = some (a, n) := by
  unfold exnD at r
  cases r with
  | exn h1 => exact ⟨_, rfl, h1⟩
  | dic h1 h2 =>
    generalize e : ([(.list [], .int n)] : List (D × D)) = l at h2
    cases h2 with
    | nil => cases e
    | @cons k _ _ _ _ _ _ =>
      injection e with e1 e2
      injection e1 with e1 e3
      cases k <;> cases e1
section
variable {X : Cx} {W : Vp} {E : L2.St → XK} {ρ : Env} {e : Expr} {i n : Nat} {a : Addr} {b : Bool}
theorem ve_isE {c : V} {cv : Value} (h : PE X e (tCB (rIsE X.K (W.ea n) a) (tCons (tVar i) (tCons (L2.tC c) tNil)))) (hi : ρ i = .vl .fz (exnD n)) (hc : ∀ u, RelV c u → u = cv) (hk : PySem.W.kitOne X.K (.ref (W.ea n)) cv = some b) : VE X (W.hot a n) E ρ .frz e (.ok b) :=
  h.wk fun σ H Q ⟨H0, F, k, q⟩ => by
    obtain ⟨fp, o1, _⟩ := k.sl
    obtain ⟨v, h1, _, h2⟩ := o1 i _ _ hi
    obtain ⟨a', rfl, h4⟩ := exn_ref h2
    cases h4
    exact ⟨.ref a, h1, c, cv, b, rfl, hc, hk, okH q (.bl b) H F [] (Same.refl H) (Ext.refl F H) k.sub (.fz (.bl b)) fun x hx => nomatch hx⟩
/-- one of the classes of a tuple that was just laid -/
def rIsET (K : PySem.W.Frag) (D' a : Addr) : List V → Hp → VK → Prop := fun xs H Q => ∃ (tp : Addr) (cs : List V) (us : List Value) (b : Bool), xs = [.ref a, .ref tp] ∧ H tp = some (.tup cs) ∧ Paired ClsV cs us ∧ PySem.W.kitAny K (.ref D') us = some b ∧ Q (.bl b) H
theorem call_isET {D' : Addr} {oe : Obj} {pn : List (Addr × Obj)} (C : ExcC X.K D') (hz : Zc (.ref D') none oe) (hf : ∃ vs, oe.data = .fields vs) : CallR (X.suite a ((a, oe) :: pn)) (.builtin "isinstance") (rIsET X.K D' a) := by
  intro pins s σ H xs us Q I r h
  obtain ⟨tp, cs, ws, b, rfl, hT, hcs, e, q⟩ := h
  obtain ⟨u1, u2, rfl, r1, r2⟩ := vals2 r
  cases (show u1 = Value.ref a from r1)
  cases (show u2 = Value.ref tp from r2)
  have at1 := (I.pin (a, oe) (List.mem_append.mpr (.inl List.mem_cons_self))).1
  obtain ⟨fs, hfs⟩ := hf
  have J : PySem.W.InstAt s.heap a oe D' none := by
    obtain ⟨oc, od, oda, osl⟩ := oe
    obtain ⟨h1, h2⟩ := hz
    dsimp only at h1 h2 hfs
    subst h1 h2 hfs
    exact ⟨at1, rfl, rfl, trivial⟩
  obtain ⟨_, its, rv, o, h1, h2, n, h3⟩ := (show ObjOk X.prog X.w H s.heap tp (.tup cs) from I.hok tp _ hT)
  have e3 := ClsV.all hcs rv
  subst e3
  obtain ⟨oc, od, dt, sl⟩ := o
  simp only at h2 h3
  subst h2 h3
  have Z := PySem.W.handS_kitx_exc (x := a) (ox := oe) C.hg C.hk C.hs C.hd C.ha C.hn C.ht C.hm
  exact PySem.W.kia_tup Z I.kIn J h1 e (fun z => nomatch z) fun tk => ⟨.bl b, H, I.tok tk, rfl, q⟩
theorem ve_isET {cvs : List V} {us : List Value} (h : PE X e (tCB (rIsET X.K (W.ea n) a) (tCons (tVar i) (tCons (fun σ H Q => cvs.length ≤ sizeLine ∧ ∀ p, H p = none → Q (.ref p) (upd H p (.tup cvs))) tNil)))) (hi : ρ i = .vl .fz (exnD n)) (hc : Paired ClsV cvs us) (hk : PySem.W.kitAny X.K (.ref (W.ea n)) us = some b) (hl : Nat.ble cvs.length 5 = true := by rfl) : VE X (W.hot a n) E ρ .frz e (.ok b) :=
  h.wk fun σ H Q ⟨H0, F, k, q⟩ => by
    obtain ⟨fp, o1, _⟩ := k.sl
    obtain ⟨v, h1, _, h2⟩ := o1 i _ _ hi
    obtain ⟨a', rfl, h4⟩ := exn_ref h2
    cases h4
    exact ⟨.ref a, h1, Nat.le_trans (Nat.le_of_ble_eq_true hl) (by decide), fun p hp => ⟨p, cvs, us, b, rfl, upd_same, hc, hk, okH q (.bl b) _ F [] (same_upd hp) (Ext.refl F H) (k.sub.trans (same_upd hp)) (.fz (.bl b)) fun x hx => nomatch hx⟩⟩
end
/-- a tuple of classes, laid -/
theorem pe_clsT {X : Cx} {es : List Expr} {k : Nat} {pos : Pos} {cvs : List V} {t : TA} (h : PE X (.Tuple es k pos) (tTup t)) (e : ∀ σ H Q, Q cvs H → t σ H Q) : PE X (.Tuple es k pos) (fun σ H Q => cvs.length ≤ sizeLine ∧ ∀ p, H p = none → Q (.ref p) (upd H p (.tup cvs))) :=
  h.wk fun σ H Q q => e σ H _ q
theorem kit_ref {K : PySem.W.Frag} {D' C : Addr} {b : Bool} (ht : PySem.W.typeIn K (.ref C) = some (.type "type")) (hd : PySem.W.hasDictIn K C = true) (hs : PySem.W.subIn K (.ref D') (.ref C) = some b) (hb : b = true ∨ (Value.ref D' == Value.ref C) = false) : PySem.W.kitOne K (.ref D') (.ref C) = some b := by
  have hc : (PySem.W.clsIn K C).isSome = true := by
    unfold PySem.W.hasDictIn at hd
    cases q : PySem.W.clsIn K C with
    | none => rw [q] at hd; cases hd
    | some z => rfl
  have e2 : ((PySem.W.clsIn K C).isSome && PySem.W.typeIn K (.ref C) == some (.type "type")) = true := by rw [hc, ht]; rfl
  unfold PySem.W.kitOne
  by_cases z : (Value.ref D' == Value.ref C) = true
  · rw [if_pos z]
    rcases hb with hb | hb
    · rw [hb]
    · rw [hb] at z; cases z
  · rw [if_neg z]
    show (if ((PySem.W.clsIn K C).isSome && PySem.W.typeIn K (.ref C) == some (.type "type")) = true then PySem.W.subIn K (.ref D') (.ref C) else none) = some b
    rw [if_pos e2]
    exact hs
theorem kit_vE {K : PySem.W.Frag} {D' : Addr} (hs : PySem.W.subIn K (.ref D') (.type "ValueError") = some true) : PySem.W.kitOne K (.ref D') (.type "ValueError") = some true := by
  have m : PySem.W.kitMeta "ValueError" = true := by decide +kernel
  unfold PySem.W.kitOne
  rw [if_neg (by intro z; cases z)]
  show (if PySem.W.kitMeta "ValueError" = true then PySem.W.subIn K (.ref D') (.type "ValueError") else none) = some true
  rw [if_pos m]
  exact hs
theorem pass_try {X : Cx} {Wx : WX} (tk : Takes X Wx) : ∀ σ, PassesAt (L2.CX X.prog X.w) X σ (WE Wx σ) := fun σ => passAt tk σ
end Tx

set_option Elab.async false
set_option linter.all false
set_option maxRecDepth 100000
set_option maxHeartbeats 4000000
/-! A31: tuple + tuple of one kind. -/
namespace Tx
open PySem L2 PyProof.Rows En EnL
def catAD : D → D → R D
  | .tuple xs, .tuple ys => if xs.length + ys.length ≤ big then .ok (.tuple (xs ++ ys)) else .no
  | _, _ => .no
theorem o2_catA {K : PySem.W.Frag} : OpD K (rCatA K) catAD := fun W E F H x y d1 d2 Q s r1 r2 m => by
  cases r1 with
  | @tup a xs ds h1 h2 =>
    cases r2 with
    | @tup b ys es h3 h4 =>
      have m : Hd E W H (if ds.length + es.length ≤ big then R.ok (.tuple (ds ++ es)) else .no) (VPost K W F H Q) := m
      by_cases z : ds.length + es.length ≤ big
      · rw [if_pos z] at m
        have l1 := h2.len
        have l2 := h4.len
        refine ⟨a, b, xs, ys, rfl, rfl, sqt_mono s h1, sqt_mono s h3, by rw [l1, l2]; exact Nat.le_trans z big_le, fun e => ?_, fun _ e => ?_, fun _ _ p hp => ?_⟩
        · subst e
          have : ds = [] := List.eq_nil_of_length_eq_zero l1.symm
          subst this
          exact m _ H F (Same.refl H) (Ext.refl F H) s (.tup h3 h4)
        · subst e
          have : es = [] := List.eq_nil_of_length_eq_zero l2.symm
          subst this
          have m : VPost K W F H Q (.tuple (ds ++ [])) := m
          rw [List.append_nil] at m
          exact m _ H F (Same.refl H) (Ext.refl F H) s (.tup h1 h2)
        · exact m _ _ (upd F p (.tup (xs ++ ys))) (same_upd hp) (Ext.one hp s) (same_upd2 s) (.tup (SqT.of upd_same) ((h2.app h4).up (Ext.one hp s).up))
      · rw [if_neg z] at m; exact False.elim m
    | _ => exact False.elim m
  | _ => cases r2 <;> exact False.elim m
section
variable {X : Cx} {W : Vp} {E : L2.St → XK} {ρ : Env} {a b : Expr} {pos : Pos} {α : Type} [En α]
def catTuR (x y : Tu α) : R (Tu α) := if x.l.length + y.l.length ≤ big then .ok ⟨x.l ++ y.l⟩ else .no
theorem hCatA (x y : Tu α) : catAD (en x) (en y) = (catTuR x y).map en := by
  show (if (x.l.map en).length + (y.l.map en).length ≤ big then R.ok (PyData.tuple (x.l.map en ++ y.l.map en)) else .no) = _
  unfold catTuR
  rw [List.length_map, List.length_map, ← List.map_append]
  by_cases z : x.l.length + y.l.length ≤ big
  · rw [if_pos z, if_pos z]; rfl
  · rw [if_neg z, if_neg z]; rfl
theorem te_catTu {m n : R (Tu α)} (ha : VE X W E ρ .frz a m) (hb : VE X W E ρ .frz b n) : VE X W E ρ .frz (.BinOp a .Add b pos) (m.bind fun x => n.bind fun y => catTuR x y) := ve_op op_catA o2_catA catTuR hCatA ha hb
end
end Tx

set_option Elab.async false
set_option linter.all false
set_option maxRecDepth 100000
set_option maxHeartbeats 4000000
/-! A32: sorted of a tuple of ints. -/
namespace Tx
open PySem L2 PyProof.Rows En EnL PySem.Spec
section
variable {prog : Program} {w : World} {A : Around} {E : Value → Shared → Prop} {s : Shared}
theorem collect_tupX {t : Addr} {vs : List Value} {Q : List Value → Shared → Prop} (ht : IsTup s.heap t vs.toArray) (hsz : vs.length ≤ sizeLine)
    (h : Q vs { s with heap := (s.heap.push (seqObj "list" #[] 0)).update s.heap.objs.size (Obj.mapSeq (· ++ vs.toArray)) }) :
    wpAny (model prog w) A (collect (.ref t)) Q E s := by
  obtain ⟨o, ho, hc, n, hd⟩ := id ht
  unfold collect
  refine wpAny_bind (wpAny_runValue (codeAny_builtin F.entry_proto_collect ?_))
  rw [Around.under_plainId F.plain_proto_collect _]
  show wpAny _ A.in1 (newList [] >>= fun l => again (.builtin "list.__iadd__" ⟨[l, .ref t], []⟩)) _ _ s
  refine wpAny_bind (wpAny_newObj_type ?_)
  refine wpAny_pure ⟨plainId_quiet F.plain_list_iadd _, codeAny_builtin F.entry_list_iadd ?_⟩
  rw [Around.under_plainId F.plain_list_iadd _]
  show wpAny _ A.in1 (Builtin.List.listExtendWith (.ref s.heap.objs.size) (.ref t) (.ref s.heap.objs.size)) _ _ _
  have hS : (s.heap.push (seqObj "list" #[] 0)).get? s.heap.objs.size = some (seqObj "list" #[] 0) := Heap.get?_push_size _ rfl
  have hS2 := Heap.get?_update_self (Obj.mapSeq (· ++ vs.toArray)) hS rfl
  have fin : wpAny (model prog w) A (match Value.ref s.heap.objs.size with
      | Value.ref a => do
        match (← load a).data with
          | Data.seq xs _ => pure xs.toList
          | _ => unsupported "internal:collect"
      | _ => unsupported "internal:collect") Q E { s with heap := (s.heap.push (seqObj "list" #[] 0)).update s.heap.objs.size (Obj.mapSeq (· ++ vs.toArray)) } := by
    show wpAny _ A (load s.heap.objs.size >>= _) _ _ _
    refine wpAny_bind (wpAny_load hS2 ?_)
    refine wpAny_pure ?_
    have e : ((#[] : Array Value) ++ vs.toArray).toList = vs := by simp
    show Q ((#[] : Array Value) ++ vs.toArray).toList _
    rw [e]
    exact h
  refine wpAny_mono (wpAny_extend_seq (hsz := by rw [List.size_toArray]; exact hsz) (A := A) (R := fun r s' => r = .ok (.ret (.ref s.heap.objs.size)) ∧ s' = { s with heap := (s.heap.push (seqObj "list" #[] 0)).update s.heap.objs.size (Obj.mapSeq (· ++ vs.toArray)) })
    (s := { s with heap := s.heap.push (seqObj "list" #[] 0) }) _ t _ 0 (.inr rfl) hS (Heap.get?_push_of_some _ ho) hc hd ⟨rfl, rfl⟩) (fun f s' q => ?_) (fun e s' q => ?_)
  · cases f with
    | done f =>
      obtain ⟨e, rfl⟩ := q
      cases e
      exact fin
    | again c' => exact ⟨q.1, codeAny_mono q.2 fun r s'' hr => by obtain ⟨rfl, rfl⟩ := hr; exact fin⟩
  · exact absurd q.1 (by simp)
theorem sorted_tupX {t : Addr} {vs : List Value} {ltv : Value → Value → Bool} {Q : Value → Shared → Prop} (O : SrtO.Swo ltv) (ht : IsTup s.heap t vs.toArray) (hz : vs.length ≤ sizeLine)
    (hS : 2 ≤ vs.length → ∀ (h₁ : Heap) (a : Addr), SrtO.SortableO prog w A.in1.in1 { s with heap := h₁ } a vs ltv)
    (h : ∀ out : List Value, SrtO.Srtd ltv out → SrtO.Stb ltv out vs → Q (.ref (s.heap.objs.size + 1)) { s with heap := sortedAll s.heap vs out.toArray }) :
    wpAny (model prog w) A (call (.builtin "sorted") [.ref t]) Q E s := by
  refine Calls.call_function_entry kind_sorted plain_sorted entry_sorted (args_sorted1 _) ?_
  unfold Builtin.«sorted»
  refine wpAny_bind (m := checkCount "sorted" 1 1 _) (wpAny_pure ?_)
  refine wpAny_bind (collect_tupX ht hz ?_)
  refine wpAny_bind (wpAny_newList ?_ hz)
  have hsz : ((s.heap.push (seqObj "list" #[] 0)).update s.heap.objs.size (Obj.mapSeq (· ++ vs.toArray))).objs.size = s.heap.objs.size + 1 := by
    rw [Heap.size_update, size_push']
  have hoL : (((s.heap.push (seqObj "list" #[] 0)).update s.heap.objs.size (Obj.mapSeq (· ++ vs.toArray))).push (seqObj "list" vs.toArray 0)).get? (s.heap.objs.size + 1) = some (seqObj "list" vs.toArray 0) := by
    rw [← hsz]; exact Heap.get?_push_size _ rfl
  show wpAny _ _ _ _ _ { s with heap := ((s.heap.push (seqObj "list" #[] 0)).update s.heap.objs.size (Obj.mapSeq (· ++ vs.toArray))).push (seqObj "list" vs.toArray 0) }
  rw [hsz]
  refine wpAny_bind (wpAny_holding (wpAny_call_entry slot_list_sort ⟨_, hoL, rfl⟩ entry_list_sort (SrtO.list_sort_ord O hoL hz (fun h2 => hS h2 _ _) fun out hs hb => ⟨_, rfl, ?_⟩) (args_list_sort _)))
  exact wpAny_pure ⟨_, rfl, h out hs hb⟩
end
def rSortedT (K : PySem.W.Frag) : List V → Hp → VK → Prop := fun vs H Q => ∃ (a : Addr) (ns : List Int), vs = [V.ref a] ∧ SqT K H a (ns.map V.int) ∧
  ∀ (ns' : List Int) (p : Addr), ns'.Perm ns → ns'.Pairwise (· ≤ ·) → H p = none → Q (.ref p) (upd H p (.lst (ns'.map V.int)))
theorem cr_sortedT {X : Cx} : CallR X (.builtin "sorted") (rSortedT X.K) := by
  intro pins s σ H vs us Q I r h
  obtain ⟨a, ns, rfl, hs, q⟩ := h
  obtain ⟨its, rv, hl, hz⟩ := I.tuple hs
  rw [Vals.ref1 r]
  have hi := rv.ints
  refine sorted_tupX SrtO.swo_int hl (by rw [← rv.length]; exact hz) (fun h2 h₁ a' => SrtO.ints_sortable hi h2) fun out h1 h2 => ?_
  obtain ⟨k1, k2, k3⟩ := SrtO.ints_out hi h1 h2
  obtain ⟨ep, he'⟩ := PyProof.Rows.sortedAll_at s.heap its out.toArray
  have hlen : ((out.map SrtO.iv).map V.int).length ≤ sizeLine := by
    rw [List.length_map, k2.length_eq]
    rw [List.length_map] at hz
    exact hz
  exact ⟨.ref _, upd H (s.heap.objs.size + 1) (.lst ((out.map SrtO.iv).map V.int)), I.laid (t' := s.toks) (fun _ _ => PyProof.Rows.sortedAll_old) (Nat.le_succ _) ⟨hlen, out, ep, vals_of_ints k1, he'⟩, rfl, q _ _ k2 k3 (I.hok.fresh (Nat.le_succ _))⟩
def fSortedT : List D → R D
  | [.tuple xs] => match asInts xs with
    | some ns => .ok (.list ((sortI ns).map .int))
    | none => .no
  | _ => .no
theorem cn_sortedT {K : PySem.W.Frag} : CaDN K (rSortedT K) fSortedT := cn_one (fun W E F H v d Q s r m => by
  cases r with
  | tup h1 h2 =>
    rename_i a xs ds
    have m : Hd E W H (match asInts ds with | some ns => R.ok (.list ((sortI ns).map .int)) | none => .no) (NPost K W F H Q) := m
    cases q : asInts ds with
    | none => rw [q] at m; exact False.elim m
    | some ns =>
      rw [q] at m
      refine ⟨a, ns, rfl, by rw [← h2.ofIntsD q]; exact sqt_mono s h1, fun ns' p hp hs hn => ?_⟩
      have e : ns' = sortI ns := PySem.W.ksm_same (hp.trans (sortI_perm ns).symm) hs (sortI_sorted ns)
      rw [e]
      exact m p _ ((sortI ns).map PyData.int) _ F rfl (same_upd hn) (Ext.refl F H) (s.trans (same_upd hn)) hn (none_back s hn) upd_same RpA.ints
  | _ => exact False.elim m) fun ds z => not_one (g := fSortedT) (f := fun d => fSortedT [d]) (fun _ => rfl) rfl (fun a b r => by cases a <;> rfl) z
def gSortedT (x : Tu Int × Unit) : R (List Int) := .ok (sortI x.1.l)
theorem hSortedT (x : Tu Int × Unit) : fSortedT (enl x) = (gSortedT x).map en := by
  show (match asInts (x.1.l.map en) with | some ns => R.ok (PyData.list ((sortI ns).map PyData.int)) | none => .no) = _
  rw [asInts_map]; rfl
theorem q_gSortedT (x : Tu Int × Unit) : gSortedT x = .ok (sortI x.1.l) := Eq.trans rfl rfl
end Tx

set_option Elab.async false
set_option linter.all false
set_option maxRecDepth 100000
set_option maxHeartbeats 4000000
/-! A33: a list's data seen as data; parts of an owned tuple. -/
namespace Tx
open PySem L2 PyProof.Rows En EnL
theorem en_castL {α : Type} [En α] (xs : List α) : en (xs.map en : List D) = en xs := by
  show PyData.list ((xs.map en).map en) = PyData.list (xs.map en)
  rw [List.map_map]
  rfl
theorem hi_cast {ρ : Env} {i : Nat} {m : Md} {d d' : D} (e : d' = d) (h : ρ i = .vl m d) : ρ i = .vl m d' := by rw [h, e]
section
variable {α γ δ : Type} [En α] [En γ] [En δ] {K : PySem.W.Frag} {C : Rc} {F F1 H H1 H0 : Hp} {s s' : Sh} {v v' : V} {a : α} {c : γ} {fp fa : List Addr} {put : γ → α} {L : Nat} {σ : L2.St} {ρ : Env} {i : Nat} {r : Option V}
/-- the part of a tuple that is owned -/
theorem Foc.ixT {ds : List D} {put : D → α} {s2 : Sh} {k : Nat} {zs : List D} (h : Foc K C F H s v fp (.tup s2) v' (.tuple ds : D) fa put) (hk : ds[k]? = some (.list zs)) : ∃ p xs vc fc, v' = .ref p ∧ H p = some (.tup xs) ∧ xs.length = ds.length ∧ xs[k]? = some vc ∧ Foc K C F H s v fp s2 vc zs fc (fun z : List D => put (.tuple (ds.set k (.list z)))) := by
  obtain ⟨w, fb, h1, h2, h3⟩ := h
  have w : Ow K C F H (.tup s2) v' (.tuple ds) fa := w
  have en1 : ∀ z : List D, en z = PyData.list z := fun z => by
    show PyData.list (z.map fun d => d) = _
    rw [List.map_id']
  cases w with
  | sc z _ => cases z
  | tup q1 q2 q3 =>
    rename_i p xs fx
    obtain ⟨vc, fc, fd, y1, y2, y3, y4, y5⟩ := q2.focus hk
    refine ⟨p, xs, vc, fc, rfl, q1, q2.len, y1, by rw [en1]; exact y2, p :: fd ++ fb, fun b => ?_, fun b hb hc => ?_, fun F' H' z fq f g w n => ?_⟩
    · simp only [h1, List.mem_append, List.mem_cons, y3]
      constructor
      · rintro ((h | h | h) | h)
        · exact .inr (.inl (.inl h))
        · exact .inl h
        · exact .inr (.inl (.inr h))
        · exact .inr (.inr h)
      · rintro (h | (h | h) | h)
        · exact .inl (.inr (.inl h))
        · exact .inl (.inl h)
        · exact .inl (.inr (.inr h))
        · exact .inr h
    · rcases List.mem_append.mp hc with hc | hc
      · rcases List.mem_cons.mp hc with e | hc
        · exact q3 ((y3 p).mpr (.inl (e ▸ hb)))
        · exact y4 b hb hc
      · exact h2 b (List.mem_cons_of_mem _ ((y3 b).mpr (.inl hb))) hc
    · rw [en1] at w
      obtain ⟨fr, r1, r2⟩ := y5 F' H' vc (.list z) fq f (fun b hb => g b (List.mem_append.mpr (.inl (List.mem_cons_of_mem _ hb)))) w fun b hb hc => n b hb (List.mem_append.mpr (.inl (List.mem_cons_of_mem _ hc)))
      have e2 : xs.set k vc = xs := by
        apply List.ext_getElem?
        intro j
        by_cases hj : j = k
        · subst hj
          have hl := (List.getElem?_eq_some_iff.mp y1).1
          rw [List.getElem?_set_self hl, y1]
        · rw [List.getElem?_set_ne (Ne.symm hj)]
      rw [e2] at r2
      have np : p ∉ fr := fun hp => by
        rcases (r1 p).mp hp with h | h
        · exact n p h (List.mem_append.mpr (.inl List.mem_cons_self))
        · exact q3 ((y3 p).mpr (.inr h))
      have w2 : Ow K C F' H' (.tup s2) (.ref p) (en (.tuple (ds.set k (.list z)) : D)) (p :: fr) := .tup ((g p (List.mem_append.mpr (.inl List.mem_cons_self))).trans q1) r2 np
      obtain ⟨ft, t1, t2⟩ := h3 F' H' (.tuple (ds.set k (.list z))) (p :: fr) f (fun b hb => g b (List.mem_append.mpr (.inr hb))) w2 fun b hb hc => by
        rcases List.mem_cons.mp hb with e | hb
        · exact h2 p List.mem_cons_self (e ▸ hc)
        · rcases (r1 b).mp hb with h | h
          · exact n b h (List.mem_append.mpr (.inr hc))
          · exact h2 b (List.mem_cons_of_mem _ ((y3 b).mpr (.inr h))) hc
      refine ⟨ft, fun b => ?_, t2⟩
      simp only [t1, List.mem_append, List.mem_cons, r1]
      constructor
      · rintro ((h | h | h) | h)
        · exact .inr (.inl (.inl h))
        · exact .inl h
        · exact .inr (.inl (.inr h))
        · exact .inr (.inr h)
      · rintro (h | (h | h) | h)
        · exact .inl (.inr (.inl h))
        · exact .inl (.inl h)
        · exact .inl (.inr (.inr h))
        · exact .inr h
end
/-- a list in a tuple, and another one in its place -/
def tplP (d : D) (i : Int) : R (List D × (List D → D)) := match d with
  | .tuple ds => (match ixAt ds.length i with
    | some k => (match ds[k]? with
      | some (.list xs) => .ok (xs, fun z => .tuple (ds.set k (.list z)))
      | _ => .no)
    | none => .no)
  | _ => .no
section
variable {X : Cx} {W : Vp} {E : L2.St → XK} {ρ : Env} {s s' s2 : Sh} {e b : Expr} {pos : Pos} {i : Nat} {r : Option V} {α : Type} [En α] {a : α}
theorem vp_ixD {m : R (D × (D → α))} {n : R Int} (ha : VP X W E ρ i s r a (.tup s2) e m) (hb : VE X W E ρ .frz b n) (hs : PlainIx b) :
    VP X W E ρ i s r a s2 (.Subscript e b pos) (m.bind fun p => n.bind fun i => (tplP p.1 i).map fun q => (q.1, fun z => p.2 (q.2 z))) := (pe_ix ix_tup ha hb hs).wk fun σ H Q ⟨H0, F, k, v, fp, o, q⟩ => by
  refine ⟨H0, F, k, v, fp, o, (hd_bind q).imp fun p q1 v' fa H1 F1 s1 x1 f1 foc => ?_⟩
  refine ⟨H0, F1, k.grow s1 x1 f1, ((hd_bind q1).heap s1).imp fun j q2 u H2 F2 fq s2' x2 f2 w2 _ => ?_⟩
  have ej : u = .int j := int_rp w2.toRp.2
  have q2 := hd_map q2
  obtain ⟨pd, pp⟩ := p
  unfold tplP at q2
  cases pd with
  | tuple ds =>
    simp only at q2
    cases hk : ixAt ds.length j with
    | none => rw [hk] at q2; exact q2.elim
    | some kx =>
      rw [hk] at q2
      simp only at q2
      cases hx : ds[kx]? with
      | none => rw [hx] at q2; exact q2.elim
      | some x =>
        rw [hx] at q2
        cases x with
        | list zs =>
          obtain ⟨og, _⟩ := o.grow s1 x1
          have foc2 := foc.grow og x2.up s2'
          obtain ⟨pa, xs, vc, fc, e1, e2, len, e3, foc3⟩ := foc2.ixT hx
          refine ⟨pa, xs, j, vc, e1, ej, SqT.of e2, ?_, ?_⟩
          · show (ixN xs.length j).bind (fun j => xs[j]?) = some vc
            have : ixN xs.length j = some kx := by rw [len]; exact hk
            rw [this]; exact e3
          · exact okH q2 vc fc H2 F2 (s1.trans s2') (x1.trans s1 x2) f2 foc3
        | _ => exact q2.elim
  | _ => exact q2.elim
end
end Tx

set_option Elab.async false
set_option linter.all false
set_option maxRecDepth 100000
set_option maxHeartbeats 4000000
/-! A34: in a list, of data with texts. -/
namespace Tx
open PySem L2 PyProof.Rows En EnL
def inB (x : D) : D → R Bool
  | .list ds => if okD x && okD (.list ds) then .ok (ds.any fun z => PyData.eqv z x) else .no
  | _ => .no
section
variable {α : Type} [En α]
def cInR (x : α) (l : List α) : R Bool := inB (en x) (en l)
def cNiR (x : α) (l : List α) : R Bool := (inB (en x) (en l)).bind fun b => .ok (!b)
theorem hInR (x : α) (l : List α) : inLD (en x) (en l) = (cInR x l).map en := by
  show (if (okD (en x) && okD (.list (l.map en))) = true then R.ok (PyData.bool ((l.map en).any fun z => PyData.eqv z (en x))) else .no) = (if (okD (en x) && okD (.list (l.map en))) = true then R.ok ((l.map en).any fun z => PyData.eqv z (en x)) else .no : R Bool).map en
  by_cases z : (okD (en x) && okD (.list (l.map en))) = true
  · rw [if_pos z, if_pos z]; rfl
  · rw [if_neg z, if_neg z]; rfl
theorem hNiR (x : α) (l : List α) : niLD (en x) (en l) = (cNiR x l).map en := by
  show (if (okD (en x) && okD (.list (l.map en))) = true then R.ok (PyData.bool (!(l.map en).any fun z => PyData.eqv z (en x))) else .no) = (((if (okD (en x) && okD (.list (l.map en))) = true then R.ok ((l.map en).any fun z => PyData.eqv z (en x)) else .no : R Bool).bind fun b => R.ok (!b))).map en
  by_cases z : (okD (en x) && okD (.list (l.map en))) = true
  · rw [if_pos z, if_pos z]; rfl
  · rw [if_neg z, if_neg z]; rfl
theorem q_cInR (x : α) (l : List α) : cInR x l = inB (en x) (en l) := Eq.trans rfl rfl
theorem q_cNiR (x : α) (l : List α) : cNiR x l = (inB (en x) (en l)).bind fun b => .ok (!b) := Eq.trans rfl rfl
end
/-! ### plainly: kinds whose data are equal where they are -/
class EqV (α : Type) [En α] [DecidableEq α] : Prop where
  eqv : ∀ a b : α, PyData.eqv (en a) (en b) = decide (a = b)
instance {α : Type} [En α] [DecidableEq α] [LEq α] : EqV α := ⟨LEq.eqv⟩
instance : EqV Str := ⟨fun a b => by show PyData.eqv (.str a) (.str b) = _; rw [PyData.eqv]; by_cases h : a = b <;> simp [h]⟩
section
variable {α β : Type} [En α] [En β] [DecidableEq α] [DecidableEq β]
theorem eqvAll_v [EqV α] : ∀ l r : List α, PyData.eqvAll (l.map en) (r.map en) = decide (l = r)
  | [], [] => by simp [PyData.eqvAll]
  | [], b :: r => by simp [PyData.eqvAll]
  | a :: l, [] => by simp [PyData.eqvAll]
  | a :: l, b :: r => by
    rw [List.map_cons, List.map_cons, PyData.eqvAll, EqV.eqv, eqvAll_v l r, ← Bool.decide_and]
    exact dec_b (by simp)
instance [EqV α] : EqV (List α) := ⟨fun a b => by show PyData.eqv (.list (a.map en)) (.list (b.map en)) = _; rw [PyData.eqv]; exact eqvAll_v a b⟩
instance [EqV α] [EqV β] : EqV (α × β) := ⟨fun a b => by
  show PyData.eqv (.tuple [en a.1, en a.2]) (.tuple [en b.1, en b.2]) = _
  rw [PyData.eqv, PyData.eqvAll, PyData.eqvAll, PyData.eqvAll, EqV.eqv, EqV.eqv, Bool.and_true, ← Bool.decide_and]
  exact dec_b ⟨fun h => Prod.ext h.1 h.2, fun h => by rw [h]; exact ⟨rfl, rfl⟩⟩⟩
theorem any_v [EqV α] (x : α) : ∀ l : List α, ((l.map en).any fun z => PyData.eqv z (en x)) = memD x l
  | [] => rfl
  | y :: r => by
    rw [List.map_cons, List.any_cons, EqV.eqv, any_v x r, Bool.eq_iff_iff, Bool.or_eq_true, memD_iff, memD_iff, decide_eq_true_iff, List.mem_cons]
    exact or_congr_left eq_comm
theorem inB_v [EqV α] {x : α} {l : List α} (h1 : okD (en x) = true) (h2 : okD (en l) = true) : inB (en x) (en l) = .ok (memD x l) := by
  have h2 : okD (.list (l.map en)) = true := h2
  show (if (okD (en x) && okD (.list (l.map en))) = true then R.ok ((l.map en).any fun z => PyData.eqv z (en x)) else .no) = _
  rw [h1, h2, any_v]; rfl
theorem eqD_v [EqV α] {x y : α} (h1 : okD (en x) = true) (h2 : okD (en y) = true) : eqD (en x) (en y) = .ok (decide (x = y)) := by
  have g : ∀ d1 d2 : D, okD d1 = true → okD d2 = true → eqD d1 d2 = .ok (PyData.eqv d1 d2) := fun d1 d2 a b => by
    unfold eqD
    split
    · rw [PyData.eqv]
      rename_i s t
      by_cases h : s = t <;> simp [h]
    · rw [a, b]; rfl
  rw [g _ _ h1 h2, EqV.eqv]
theorem okD_list {l : List α} (h : ∀ x ∈ l, (en x).canLay0 = true ∧ (en x).depth ≤ 60) : okD (en l) = true := by
  have a : ∀ l : List α, (∀ x ∈ l, (en x).canLay0 = true ∧ (en x).depth ≤ 60) → PyData.canLayAll0 (l.map en) = true ∧ PyData.depthAll (l.map en) ≤ 60 := by
    intro l
    induction l with
    | nil => intro _; exact ⟨rfl, Nat.zero_le _⟩
    | cons x l ih =>
      intro h
      obtain ⟨h1, h2⟩ := h x List.mem_cons_self
      obtain ⟨i1, i2⟩ := ih fun y hy => h y (List.mem_cons_of_mem _ hy)
      rw [List.map_cons, PyData.canLayAll0, PyData.depthAll, h1, i1]
      exact ⟨rfl, Nat.max_le.mpr ⟨h2, i2⟩⟩
  obtain ⟨b, c⟩ := a l h
  show ((PyData.list (l.map en)).canLay0 && decide ((PyData.list (l.map en)).depth ≤ 64)) = true
  rw [PyData.canLay0, PyData.depth, b, Bool.true_and]
  exact decide_eq_true (by omega)
end
end Tx

set_option Elab.async false
set_option linter.all false
set_option maxRecDepth 100000
set_option maxHeartbeats 4000000
/-! A35: range with a step. -/
namespace Tx
open PySem L2 PyProof.Rows En EnL
def stepI (i c : Int) (n : Nat) : List Int := (List.range n).map fun (k : Nat) => i + (k : Nat) * c
def rng3 (i j c : Int) : R (List Int) := if c ≠ 0 ∧ c.natAbs < 1073741824 ∧ Builtin.Range.small i j c = true ∧ 0 ≤ Builtin.Range.rangeSize i j c ∧ (Builtin.Range.rangeSize i j c).toNat ≤ big then .ok (stepI i c (Builtin.Range.rangeSize i j c).toNat) else .no
theorem stepI_get {i c : Int} {n k : Nat} (h : k < n) : (stepI i c n)[k]? = some (i + (k : Nat) * c) := by
  unfold stepI
  rw [List.getElem?_map, List.getElem?_range h]; rfl
theorem stepI_len (i c : Int) (n : Nat) : (stepI i c n).length = n := by unfold stepI; simp
section
variable {X : Cx} {W : Vp} {E : L2.St → XK} {ρ : Env} {b0 : Bool} {tg a b c : Expr}
theorem rng3_yields {K : PySem.W.Frag} {i c : Int} {n : Nat} {F' : Hp} : Yields K W F' ((stepI i c n).map en) (YFn fun k => .int (i + (k : Nat) * c)) := fun k Ha v Hb Fa h y z1 z2 => by
  obtain ⟨e1, e2⟩ := y
  subst e1; subst e2
  rw [List.length_map, stepI_len] at h
  exact ⟨_, Fa, get_map (stepI_get h), Same.refl _, Ext.refl _ _, z2, .int _⟩
theorem vi_rng3 {m : R (Int × Int × Int × Unit)} {p pos : Pos} (hg : Gl X "range") (hm : X.mg "range" = none) (ha : VA X W E ρ .frz [a, b, c] m) (hs : starEach [a, b, c] X.env = (false, eval a X.env) :: starEach [b, c] X.env := by rfl) (hpl : (backTo pos (starEach [b, c] X.env)).any (·.1) = false := by rfl) :
    VI X W E ρ b0 tg (.Call (.Name "range" p) [a, b, c] [] pos) (m.bind fun x => rng3 x.1 x.2.1 x.2.2.1) :=
  (pi_range3 hg hm ha hs hpl).wk fun σ H RR ⟨H0, F, k, q⟩ => ⟨H0, F, k, (hd_bind q).imp fun x m1 vs H1 F1 fp s1 x1 f1 w1 _ => by
    have r1 := w1.toRp.2
    obtain ⟨i, j, c, u⟩ := x
    have ev : vs = [.int i, .int j, .int c] := by
      have r1 : RpA X.K W.rc F1 vs [PyData.int i, PyData.int j, PyData.int c] := r1
      cases r1 with
      | cons r t =>
        cases r
        cases t with
        | cons r t =>
          cases r
          cases t with
          | cons r t => cases r; cases t; rfl
    subst ev
    have m1 : Hd (E σ) W H (rng3 i j c) _ := m1
    unfold rng3 at m1
    by_cases z : c ≠ 0 ∧ c.natAbs < 1073741824 ∧ Builtin.Range.small i j c = true ∧ 0 ≤ Builtin.Range.rangeSize i j c ∧ (Builtin.Range.rangeSize i j c).toNat ≤ big
    · rw [if_pos z] at m1
      have l := stepI_len i c (Builtin.Range.rangeSize i j c).toNat
      refine ⟨i, j, c, (Builtin.Range.rangeSize i j c).toNat, rfl, ⟨z.1, z.2.1, z.2.2.1, (Int.toNat_of_nonneg z.2.2.2.1).symm⟩, m1 _ H1 F1 _ _ s1 x1 f1 (by rw [l]; exact Nat.le_trans z.2.2.2.2 big_le) (by rw [l]; exact walk_rangeC) (fun _ _ => True.intro) (fun _ _ _ _ => True.intro) rng3_yields⟩
    · rw [if_neg z] at m1; exact m1.elim⟩
end
end Tx

set_option Elab.async false
set_option linter.all false
set_option maxRecDepth 100000
set_option maxHeartbeats 4000000
/-! B1: plain lemmas on what is reckoned. -/
namespace Tx
open PySem En EnL

theorem mulR_r {i j : Int} (h : -18446744073709551616 < j ∧ j < 18446744073709551616) : mulR i j = .ok (i * j) := by
  unfold mulR; rw [if_pos]; left; right; exact ⟨by have := h.1; omega, by have := h.2; omega⟩
theorem mulR_l {i j : Int} (h : -18446744073709551616 < i ∧ i < 18446744073709551616) : mulR i j = .ok (i * j) := by
  unfold mulR; rw [if_pos]; left; left; exact ⟨by have := h.1; omega, by have := h.2; omega⟩
theorem mulR_w {i j : Int} (h : i.natAbs.log2 + j.natAbs.log2 < 1000000) : mulR i j = .ok (i * j) := by
  unfold mulR; rw [if_pos]; right; exact h
theorem modR_p {i j : Int} (h : 0 < j) : modR i j = .ok (i % j) := by
  unfold modR; rw [if_pos (by omega), Int.fmod_eq_emod_of_nonneg i (by omega)]
theorem divR_p {i j : Int} (h : 0 < j) (h2 : j < 1073741824) : divR i j = .ok (i / j) := by
  unfold divR; rw [if_pos (by left; omega), Int.fdiv_eq_ediv_of_nonneg i (by omega)]
theorem divR_w {i j : Int} (h : 0 < j) (h2 : j.natAbs.log2 < 9000) : divR i j = .ok (i / j) := by
  unfold divR; rw [if_pos (by right; exact ⟨h, h2⟩), Int.fdiv_eq_ediv_of_nonneg i (by omega)]
theorem pow6 : powR 10 6 = .ok 1000000 := by unfold powR; rw [if_pos (by decide)]; exact congrArg R.ok (by decide +kernel)
theorem pow9 : powR 10 9 = .ok 1000000000 := by unfold powR; rw [if_pos (by decide)]; exact congrArg R.ok (by decide +kernel)
theorem pow12 : powR 10 12 = .ok 1000000000000 := by unfold powR; rw [if_pos (by decide)]; exact congrArg R.ok (by decide +kernel)
theorem pow18 : powR 10 18 = .ok 1000000000000000000 := by unfold powR; rw [if_pos (by decide)]; exact congrArg R.ok (by decide +kernel)
theorem ixAt_nat {n k : Nat} (h : k < n) : ixAt n (k : Int) = some k := by unfold ixAt; rw [if_pos (by omega), if_pos (by omega)]; simp
theorem ixR_nat {α : Type} {xs : List α} {k : Nat} {x : α} (h : xs[k]? = some x) : ixR xs (k : Int) = .ok x := by
  unfold ixR
  rw [ixAt_nat (List.getElem?_eq_some_iff.mp h).1]
  simp only [h]
theorem ixR_lt {α : Type} {xs : List α} {i : Int} (h0 : 0 ≤ i) (h : i < xs.length) : ∃ x, xs[i.toNat]? = some x ∧ ixR xs i = .ok x := by
  obtain ⟨k, rfl⟩ := Int.eq_ofNat_of_zero_le h0
  have hk : k < xs.length := by omega
  exact ⟨xs[k], by simp [hk], ixR_nat (by simp [hk])⟩
theorem ixR_D {α : Type} {xs : List α} {i : Int} (d : α) (h0 : 0 ≤ i) (h : i < xs.length) : ixR xs i = .ok (xs.getD i.toNat d) := by
  obtain ⟨x, h1, h2⟩ := ixR_lt h0 h
  rw [h2, List.getD_eq_getElem?_getD, h1]; rfl
theorem ixR_last {α : Type} {xs : List α} {x : α} : ixR (xs ++ [x]) (-1) = .ok x := by
  unfold ixR ixAt
  rw [if_neg (by omega), if_pos (by simp; omega)]
  have : ((-1 : Int) + ((xs ++ [x]).length : Nat)).toNat = xs.length := by simp; omega
  rw [this]
  simp
theorem ixR_mem {α : Type} {xs : List α} {i : Int} {x : α} (h : ixR xs i = .ok x) : x ∈ xs := by
  unfold ixR at h
  split at h
  · split at h
    · rename_i e; cases h; exact List.mem_of_getElem? e
    · cases h
  · cases h
theorem putR_nat {α : Type} {xs : List α} {k : Nat} {x : α} (h : k < xs.length) : putR xs (k : Int) x = .ok (xs.set k x) := by
  unfold putR
  rw [ixAt_nat h]
theorem putR_lt {α : Type} {xs : List α} {i : Int} {x : α} (h0 : 0 ≤ i) (h : i < xs.length) : putR xs i x = .ok (xs.set i.toNat x) := by
  obtain ⟨k, rfl⟩ := Int.eq_ofNat_of_zero_le h0
  exact putR_nat (by omega)
theorem ixP_nat {α : Type} {xs : List α} {k : Nat} {x : α} (h : xs[k]? = some x) : ixP xs (k : Int) = .ok (x, fun z => xs.set k z) := by
  unfold ixP
  rw [ixAt_nat (List.getElem?_eq_some_iff.mp h).1]
  simp only [h]
theorem appR_ok {α : Type} {xs : List α} {a : α} (h : xs.length < 16000000) : appR xs a = .ok (xs ++ [a]) := by unfold appR big; rw [if_pos h]
theorem catR_ok {α : Type} {xs ys : List α} (h : xs.length + ys.length ≤ 16000000) : catR xs ys = .ok (xs ++ ys) := by unfold catR big; rw [if_pos h]
theorem repR_nat {α : Type} {xs : List α} {k : Nat} (h : xs.length * k ≤ 16000000) (hk : k ≤ 16000000) : repR xs (k : Int) = .ok (List.replicate k xs).flatten := by
  unfold repR big; rw [if_pos ⟨by omega, by omega, by simpa using h⟩]; simp
theorem repR_one {α : Type} {x : α} {k : Nat} (hk : k ≤ 16000000) : repR [x] (k : Int) = .ok (List.replicate k x) := by
  rw [repR_nat (by simpa using hk) hk]
  congr 1
  induction k with
  | zero => rfl
  | succ k ih => rw [List.replicate_succ, List.flatten_cons, ih (by omega), List.replicate_succ]; rfl
def rangeN (n : Nat) : List Int := (List.range n).map fun k : Nat => (k : Int)
theorem rangeI_nat (n : Nat) : rangeI 0 (n : Int) = rangeN n := by simp [rangeI, rangeN]
theorem rangeN_get {n i : Nat} : (rangeN n)[i]? = if i < n then some (i : Int) else none := by
  unfold rangeN
  rw [List.getElem?_map]
  by_cases h : i < n
  · rw [if_pos h, List.getElem?_range h]; rfl
  · rw [if_neg h, List.getElem?_eq_none (by simp; omega)]; rfl
@[simp] theorem rangeN_len (n : Nat) : (rangeN n).length = n := by simp [rangeN]
theorem rangeN_mem {n : Nat} {x : Int} : x ∈ rangeN n ↔ 0 ≤ x ∧ x < n := by
  unfold rangeN
  rw [List.mem_map]
  constructor
  · rintro ⟨k, hk, rfl⟩
    have := List.mem_range.mp hk; omega
  · rintro ⟨h1, h2⟩
    exact ⟨x.toNat, List.mem_range.mpr (by omega), by omega⟩
theorem rng1_nat {n : Nat} (h : n ≤ 16000000) : rng1 (n : Int) = .ok (rangeN n) := by
  unfold rng1 big; rw [if_pos ⟨by omega, by omega⟩, rangeI_nat]
theorem rng1_int {i : Int} (h0 : 0 ≤ i) (h : i ≤ 16000000) : rng1 i = .ok (rangeN i.toNat) := by
  obtain ⟨k, rfl⟩ := Int.eq_ofNat_of_zero_le h0
  exact rng1_nat (by omega)
theorem lrgR_nat {n : Nat} (h : n ≤ 100000) : lrgR (n : Int) = .ok (rangeN n) := by
  unfold lrgR; rw [if_pos ⟨by omega, by omega⟩, rangeI_nat]
theorem absI_eq (i : Int) : absI i = (i.natAbs : Int) := by unfold absI; split <;> omega
theorem min2_eq (i j : Int) : min2 i j = min i j := by unfold min2; split <;> omega
theorem max2_eq (i j : Int) : max2 i j = max i j := by unfold max2; split <;> omega
@[simp] theorem iteR_okb {α : Type} (c : Bool) (a b : R α) : iteR (.ok c) a b = if c = true then a else b := Eq.trans rfl rfl
theorem orR_t (b : R Bool) : orR (.ok true) b = .ok true := rfl
theorem orR_f (b : R Bool) : orR (.ok false) b = b := rfl
theorem andR_t (b : R Bool) : andR (.ok true) b = b := rfl
theorem andR_f (b : R Bool) : andR (.ok false) b = .ok false := rfl
/-! ### loops -/
section
variable {α β S : Type}
theorem forR_ok {f : α → S → R S} (I : Nat → S → Prop) : ∀ (xs : List α) (k : Nat) (s : S), I k s → (∀ i x s, xs[i]? = some x → I (k + i) s → ∃ s', f x s = .ok s' ∧ I (k + i + 1) s') → ∃ s', forR f xs s = .ok s' ∧ I (k + xs.length) s'
  | [], k, s, h, _ => ⟨s, rfl, h⟩
  | x :: xs, k, s, h, st => by
    obtain ⟨s1, e1, h1⟩ := st 0 x s rfl h
    obtain ⟨s2, e2, h2⟩ := forR_ok I xs (k + 1) s1 h1 fun i y s' hy hi => by
      have := st (i + 1) y s' (by simpa using hy) (by rw [show k + (i + 1) = k + 1 + i by omega]; exact hi)
      rw [show k + (i + 1) + 1 = k + 1 + i + 1 by omega] at this
      exact this
    refine ⟨s2, ?_, by rw [List.length_cons, show k + (xs.length + 1) = k + 1 + xs.length by omega]; exact h2⟩
    show (f x s).bind _ = _
    rw [e1]; exact e2
theorem forR_inv {f : α → S → R S} {xs : List α} {s : S} (I : Nat → S → Prop) (h0 : I 0 s) (st : ∀ i x s, xs[i]? = some x → I i s → ∃ s', f x s = .ok s' ∧ I (i + 1) s') : ∃ s', forR f xs s = .ok s' ∧ I xs.length s' := by
  obtain ⟨s', e, h⟩ := forR_ok I xs 0 s h0 fun i x s hx hi => by simpa using st i x s hx (by simpa using hi)
  exact ⟨s', e, by simpa using h⟩
/-- a loop whose turns reckon a plain function -/
theorem forR_fold {f : α → S → R S} {g : S → α → S} {xs : List α} {s : S} (I : S → Prop) (h0 : I s) (st : ∀ x ∈ xs, ∀ s, I s → f x s = .ok (g s x) ∧ I (g s x)) : forR f xs s = .ok (xs.foldl g s) ∧ I (xs.foldl g s) := by
  induction xs generalizing s with
  | nil => exact ⟨rfl, h0⟩
  | cons x xs ih =>
    obtain ⟨e, h⟩ := st x List.mem_cons_self s h0
    obtain ⟨e2, h2⟩ := ih h fun y hy => st y (List.mem_cons_of_mem _ hy)
    refine ⟨?_, h2⟩
    show (f x s).bind _ = _
    rw [e]; exact e2
theorem loopR_ok {f : α → S → R (Lc S β)} (I : Nat → S → Prop) : ∀ (xs : List α) (k : Nat) (s : S), I k s → (∀ i x s, xs[i]? = some x → I (k + i) s → ∃ s', f x s = .ok (.nx s') ∧ I (k + i + 1) s') → ∃ s', loopR f xs s = .ok (.inl s') ∧ I (k + xs.length) s'
  | [], k, s, h, _ => ⟨s, rfl, h⟩
  | x :: xs, k, s, h, st => by
    obtain ⟨s1, e1, h1⟩ := st 0 x s rfl h
    obtain ⟨s2, e2, h2⟩ := loopR_ok I xs (k + 1) s1 h1 fun i y s' hy hi => by
      have := st (i + 1) y s' (by simpa using hy) (by rw [show k + (i + 1) = k + 1 + i by omega]; exact hi)
      rw [show k + (i + 1) + 1 = k + 1 + i + 1 by omega] at this
      exact this
    refine ⟨s2, ?_, by rw [List.length_cons, show k + (xs.length + 1) = k + 1 + xs.length by omega]; exact h2⟩
    show (f x s).bind _ = _
    rw [e1]; exact e2
theorem loopR_inv {f : α → S → R (Lc S β)} {xs : List α} {s : S} (I : Nat → S → Prop) (h0 : I 0 s) (st : ∀ i x s, xs[i]? = some x → I i s → ∃ s', f x s = .ok (.nx s') ∧ I (i + 1) s') : ∃ s', loopR f xs s = .ok (.inl s') ∧ I xs.length s' := by
  obtain ⟨s', e, h⟩ := loopR_ok (β := β) I xs 0 s h0 fun i x s hx hi => by simpa using st i x s hx (by simpa using hi)
  exact ⟨s', e, by simpa using h⟩
/-- .. that carries nothing -/
theorem loopR_unit {f : α → Unit → R (Lc Unit β)} {xs : List α} (st : ∀ x ∈ xs, f x () = .ok (.nx ())) : loopR f xs () = .ok (.inl ()) := by
  induction xs with
  | nil => rfl
  | cons x xs ih =>
    show (f x ()).bind _ = _
    rw [st x List.mem_cons_self]
    exact ih fun y hy => st y (List.mem_cons_of_mem _ hy)
theorem mapR_of {f : α → R β} {g : α → β} : ∀ {xs : List α}, (∀ x ∈ xs, f x = .ok (g x)) → mapR f xs = .ok (xs.map g)
  | [], _ => rfl
  | x :: xs, h => by
    show (f x).bind _ = _
    rw [h x List.mem_cons_self]
    show (mapR f xs).bind _ = _
    rw [mapR_of fun y hy => h y (List.mem_cons_of_mem _ hy)]; rfl
theorem fmapR_of {t : α → R Bool} {p : α → Bool} {f : α → R β} {g : α → β} : ∀ {xs : List α}, (∀ x ∈ xs, t x = .ok (p x)) → (∀ x ∈ xs, p x = true → f x = .ok (g x)) → fmapR t f xs = .ok ((xs.filter p).map g)
  | [], _, _ => rfl
  | x :: xs, h, h' => by
    show (t x).bind _ = _
    rw [h x List.mem_cons_self]
    have ih := fmapR_of (xs := xs) (fun y hy => h y (List.mem_cons_of_mem _ hy)) fun y hy => h' y (List.mem_cons_of_mem _ hy)
    rw [List.filter_cons]
    cases e : p x with
    | false => exact ih
    | true =>
      show (f x).bind _ = _
      rw [h' x List.mem_cons_self e]
      show (fmapR t f xs).bind _ = _
      rw [ih]; rfl
theorem mapR_len {f : α → R β} : ∀ {xs : List α} {ys : List β}, mapR f xs = .ok ys → ys.length = xs.length
  | [], _, h => by cases h; rfl
  | x :: xs, ys, h => by
    have h : (f x).bind _ = _ := h
    obtain ⟨y, _, h⟩ := R.bind_eq_ok.mp h
    obtain ⟨zs, h1, h2⟩ := R.bind_eq_ok.mp h
    cases h2
    rw [List.length_cons, List.length_cons, mapR_len h1]
end
/-- numbers each below a limit of its own -/
def InR : List Int → List Int → Prop
  | [], [] => True
  | x :: xs, m :: ms => (0 ≤ x ∧ x < m) ∧ InR xs ms
  | _, _ => False
theorem InR.snoc : ∀ {xs ms : List Int} {x m : Int}, InR xs ms → 0 ≤ x ∧ x < m → InR (xs ++ [x]) (ms ++ [m])
  | [], [], _, _, _, h => ⟨h, trivial⟩
  | _ :: _, _ :: _, _, _, h, h' => ⟨h.1, h.2.snoc h'⟩
  | [], _ :: _, _, _, h, _ => h.elim
  | _ :: _, [], _, _, h, _ => h.elim
theorem InR.len : ∀ {xs ms : List Int}, InR xs ms → xs.length = ms.length
  | [], [], _ => rfl
  | _ :: _, _ :: _, h => congrArg (· + 1) h.2.len
  | [], _ :: _, h => h.elim
  | _ :: _, [], h => h.elim
theorem InR.get : ∀ {xs ms : List Int} {i : Nat} {m : Int}, InR xs ms → ms[i]? = some m → ∃ x, xs[i]? = some x ∧ 0 ≤ x ∧ x < m
  | [], [], _, _, _, h => by simp at h
  | x :: _, _ :: _, 0, _, h, e => by simp at e; subst e; exact ⟨x, rfl, h.1⟩
  | _ :: _, _ :: _, i + 1, _, h, e => by
    obtain ⟨x, h1, h2⟩ := h.2.get (i := i) (by simpa using e)
    exact ⟨x, by simpa using h1, h2⟩
  | [], _ :: _, _, _, h, _ => h.elim
  | _ :: _, [], _, _, h, _ => h.elim
end Tx

set_option Elab.async false
set_option linter.all false
set_option maxRecDepth 100000
set_option maxHeartbeats 4000000
/-! B2: what repr tells. -/
namespace Tx
open PySem PySem.W PyProof.Rows L2 En EnL
/-! ### repr -/
mutual
/-- how much there is to be shown; none where it is not served -/
def shW : PyData → Nat
  | .none | .bool _ | .int _ | .str _ => 1
  | .list xs | .tuple xs => shWA xs + 1
  | .dict _ => 1
def shWA : List PyData → Nat
  | [] => 0
  | x :: xs => shW x + shWA xs
end
mutual
/-- ints below 2 ^ 1900, no texts -/
def shOk : PyData → Bool
  | .none | .bool _ => true
  | .int i => decide (i.natAbs < 2 ^ 1900)
  | .str s => decide ((PyData.shown (.str s)).length + 2 ≤ 700) && (PyData.str s).showable && (PyData.str s).canLay0
  | .dict _ => false
  | .list xs | .tuple xs => shOkA xs
def shOkA : List PyData → Bool
  | [] => true
  | x :: xs => shOk x && shOkA xs
end
theorem int_len {i : Int} (h : i.natAbs < 2 ^ 1900) : (PyData.shown (.int i)).length ≤ 650 := by
  have e := int_text_length_le10 (a := i) (k := 610) (by decide) (Nat.lt_of_lt_of_le h (by decide +kernel))
  show (Str.ofString (toString i)).length ≤ 650
  rw [PySem.ofString_length]
  omega
mutual
theorem shown_len : ∀ d : PyData, shOk d = true → (PyData.shown d).length + 2 ≤ 700 * shW d
  | .none, _ => by simp only [PyData.shown, shW]; decide
  | .bool true, _ => by simp only [PyData.shown, shW]; decide
  | .bool false, _ => by simp only [PyData.shown, shW]; decide
  | .int i, h => by
    have := int_len (i := i) (by simpa [shOk] using h)
    simp only [shW]
    omega
  | .str s, h => by
    have h : (decide ((PyData.shown (.str s)).length + 2 ≤ 700) && (PyData.str s).showable && (PyData.str s).canLay0) = true := by simpa only [shOk] using h
    rw [Bool.and_eq_true, Bool.and_eq_true, decide_eq_true_iff] at h
    simp only [shW]
    omega
  | .dict _, h => by simp [shOk] at h
  | .list xs, h => by
    have e := listText_len_le (PyData.shownAll xs)
    have r := shownA_len xs (by simpa [shOk] using h)
    simp only [PyData.shown, shW]
    omega
  | .tuple xs, h => by
    have e := tupleText_len_le (PyData.shownAll xs)
    have r := shownA_len xs (by simpa [shOk] using h)
    simp only [PyData.shown, shW]
    omega
theorem shownA_len : ∀ xs : List PyData, shOkA xs = true → ((PyData.shownAll xs).map (·.length)).sum + 2 * (PyData.shownAll xs).length ≤ 700 * shWA xs
  | [], _ => by simp [PyData.shownAll, shWA]
  | x :: xs, h => by
    have h' : shOk x = true ∧ shOkA xs = true := by simpa [shOkA] using h
    have e1 := shown_len x h'.1
    have e2 := shownA_len xs h'.2
    simp only [PyData.shownAll, shWA, List.map_cons, List.sum_cons, List.length_cons]
    omega
end
mutual
theorem showable_of : ∀ d : PyData, shOk d = true → d.showable = true
  | .none, _ => by simp [PyData.showable]
  | .bool _, _ => by simp [PyData.showable]
  | .int i, h => by
    have h : i.natAbs < 2 ^ 1900 := by simpa [shOk] using h
    simp only [PyData.showable, decide_eq_true_eq]
    by_cases z : i.natAbs = 0
    · rw [z]; decide
    · have := (Nat.log2_lt z (k := 1900)).mpr h
      omega
  | .str s, h => by
    have h : (decide ((PyData.shown (.str s)).length + 2 ≤ 700) && (PyData.str s).showable && (PyData.str s).canLay0) = true := by simpa only [shOk] using h
    rw [Bool.and_eq_true, Bool.and_eq_true] at h
    exact h.1.2
  | .dict _, h => by simp [shOk] at h
  | .list xs, h => by
    simp only [PyData.showable]
    exact showableA_of xs (by simpa [shOk] using h)
  | .tuple xs, h => by
    simp only [PyData.showable]
    exact showableA_of xs (by simpa [shOk] using h)
theorem showableA_of : ∀ xs : List PyData, shOkA xs = true → PyData.showableAll xs = true
  | [], _ => by simp [PyData.showableAll]
  | x :: xs, h => by
    have h' : shOk x = true ∧ shOkA xs = true := by simpa [shOkA] using h
    simp only [PyData.showableAll, Bool.and_eq_true]
    exact ⟨showable_of x h'.1, showableA_of xs h'.2⟩
end
mutual
theorem canLay_of : ∀ d : PyData, shOk d = true → d.canLay0 = true
  | .none, _ => by simp [PyData.canLay0]
  | .bool _, _ => by simp [PyData.canLay0]
  | .int i, h => by simp [PyData.canLay0]
  | .str s, h => by
    have h : (decide ((PyData.shown (.str s)).length + 2 ≤ 700) && (PyData.str s).showable && (PyData.str s).canLay0) = true := by simpa only [shOk] using h
    rw [Bool.and_eq_true, Bool.and_eq_true] at h
    exact h.2
  | .dict _, h => by simp [shOk] at h
  | .list xs, h => by
    simp only [PyData.canLay0]
    exact canLayA_of xs (by simpa [shOk] using h)
  | .tuple xs, h => by
    simp only [PyData.canLay0]
    exact canLayA_of xs (by simpa [shOk] using h)
theorem canLayA_of : ∀ xs : List PyData, shOkA xs = true → PyData.canLayAll0 xs = true
  | [], _ => by simp [PyData.canLayAll0]
  | x :: xs, h => by
    have h' : shOk x = true ∧ shOkA xs = true := by simpa [shOkA] using h
    simp only [PyData.canLayAll0, Bool.and_eq_true]
    exact ⟨canLay_of x h'.1, canLayA_of xs h'.2⟩
end
theorem size_line : sizeLine = 16777216 := by rw [sizeLine_eq]
theorem map_shok {α : Type} {f : α → D} {l : List α} (h : ∀ x ∈ l, shOk (f x) = true) : shOkA (l.map f) = true := by
  induction l with
  | nil => simp [shOkA]
  | cons a r ih =>
    simp only [List.map_cons, shOkA, Bool.and_eq_true]
    exact ⟨h a List.mem_cons_self, ih fun x hx => h x (List.mem_cons_of_mem _ hx)⟩

theorem repr_eq {d : D} (h : shOk d = true) (hd : d.depth ≤ 64) (hw : shW d ≤ 20000) (hf : flatD d = false) : reprR d = .ok d.shown := by
  have l := shown_len d h
  have e : (d.showable && decide (d.depth ≤ 64) && decide (d.shown.length ≤ sizeLine) && okD d && !flatD d) = true := by
    have s : d.shown.length ≤ sizeLine := by rw [size_line]; omega
    simp [okD, showable_of d h, hd, s, canLay_of d h, hf]
  unfold reprR
  rw [if_pos e]
/-! ### .. by kinds -/
class Shw (α : Type) [En α] where
  dp : Nat
  ok : α → Prop
  wt : α → Nat
  hok : ∀ a, ok a → shOk (en a) = true
  hwt : ∀ a, shW (en a) ≤ wt a
  hdp : ∀ a : α, (en a).depth ≤ dp
theorem shA_ok {α : Type} [En α] [Shw α] : ∀ l : List α, (∀ a ∈ l, Shw.ok a) → shOkA (l.map en) = true := fun l h => map_shok fun x hx => Shw.hok x (h x hx)
theorem shA_wt {α : Type} [En α] [Shw α] : ∀ l : List α, shWA (l.map en) ≤ (l.map Shw.wt).sum
  | [] => Nat.le_refl _
  | a :: l => by
    have h1 := Shw.hwt a
    have h2 := shA_wt l
    simp only [List.map_cons, shWA, List.sum_cons]; omega
theorem shA_dp {α : Type} [En α] [Shw α] : ∀ l : List α, PyData.depthAll (l.map en) ≤ Shw.dp α
  | [] => Nat.zero_le _
  | a :: l => by
    have h1 := Shw.hdp a
    have h2 := shA_dp l
    simp only [List.map_cons, PyData.depthAll]; omega
instance : Shw Int where
  dp := 0
  ok := fun i => i.natAbs < 2 ^ 1900
  wt := fun _ => 1
  hok := fun i h => by show shOk (.int i) = true; simp only [shOk, decide_eq_true_eq]; exact h
  hwt := fun _ => Nat.le_refl _
  hdp := fun _ => Nat.le_refl _
instance : Shw Bool where
  dp := 0
  ok := fun i => True
  wt := fun _ => 1
  hok := fun i h => rfl
  hwt := fun _ => Nat.le_refl _
  hdp := fun _ => Nat.le_refl _
instance : Shw Str where
  dp := 0
  ok := fun s => shOk (.str s) = true
  wt := fun _ => 1
  hok := fun _ h => h
  hwt := fun s => by show shW (.str s) ≤ 1; simp only [shW]; exact Nat.le_refl _
  hdp := fun s => by show (PyData.str s).depth ≤ 0; simp [PyData.depth]
instance {α : Type} [En α] [Shw α] : Shw (List α) where
  dp := Shw.dp α + 1
  ok := fun l => ∀ a ∈ l, Shw.ok a
  wt := fun l => (l.map Shw.wt).sum + 1
  hok := fun l h => by show shOk (.list (l.map en)) = true; rw [shOk]; exact shA_ok l h
  hwt := fun l => by show shW (.list (l.map en)) ≤ _; rw [shW]; exact Nat.succ_le_succ (shA_wt l)
  hdp := fun l => by show (PyData.list (l.map en)).depth ≤ _; rw [PyData.depth]; exact Nat.succ_le_succ (shA_dp l)
instance {α : Type} [En α] [Shw α] : Shw (Tu α) where
  dp := Shw.dp α + 1
  ok := fun l => ∀ a ∈ l.l, Shw.ok a
  wt := fun l => (l.l.map Shw.wt).sum + 1
  hok := fun l h => by show shOk (.tuple (l.l.map en)) = true; rw [shOk]; exact shA_ok l.l h
  hwt := fun l => by show shW (.tuple (l.l.map en)) ≤ _; rw [shW]; exact Nat.succ_le_succ (shA_wt l.l)
  hdp := fun l => by show (PyData.tuple (l.l.map en)).depth ≤ _; rw [PyData.depth]; exact Nat.succ_le_succ (shA_dp l.l)
instance {α β : Type} [En α] [Shw α] [En β] [Shw β] : Shw (α × β) where
  dp := max (Shw.dp α) (Shw.dp β) + 1
  ok := fun x => Shw.ok x.1 ∧ Shw.ok x.2
  wt := fun x => Shw.wt x.1 + Shw.wt x.2 + 1
  hok := fun x h => by show shOk (.tuple [en x.1, en x.2]) = true; simp only [shOk, shOkA, Shw.hok x.1 h.1, Shw.hok x.2 h.2, Bool.and_true]
  hwt := fun x => by have h1 := Shw.hwt x.1; have h2 := Shw.hwt x.2; show shW (.tuple [en x.1, en x.2]) ≤ _; simp only [shW, shWA]; omega
  hdp := fun x => by have h1 := Shw.hdp x.1; have h2 := Shw.hdp x.2; show (PyData.tuple [en x.1, en x.2]).depth ≤ _; simp only [PyData.depth, PyData.depthAll]; omega
instance {α β γ : Type} [En α] [Shw α] [En β] [Shw β] [En γ] [Shw γ] : Shw (T3 α β γ) where
  dp := max (Shw.dp α) (max (Shw.dp β) (Shw.dp γ)) + 1
  ok := fun x => Shw.ok x.a ∧ Shw.ok x.b ∧ Shw.ok x.c
  wt := fun x => Shw.wt x.a + Shw.wt x.b + Shw.wt x.c + 1
  hok := fun x h => by show shOk (.tuple [en x.a, en x.b, en x.c]) = true; simp only [shOk, shOkA, Shw.hok x.a h.1, Shw.hok x.b h.2.1, Shw.hok x.c h.2.2, Bool.and_true]
  hwt := fun x => by have h1 := Shw.hwt x.a; have h2 := Shw.hwt x.b; have h3 := Shw.hwt x.c; show shW (.tuple [en x.a, en x.b, en x.c]) ≤ _; simp only [shW, shWA]; omega
  hdp := fun x => by have h1 := Shw.hdp x.a; have h2 := Shw.hdp x.b; have h3 := Shw.hdp x.c; show (PyData.tuple [en x.a, en x.b, en x.c]).depth ≤ _; simp only [PyData.depth, PyData.depthAll]; omega
instance {α β γ δ : Type} [En α] [Shw α] [En β] [Shw β] [En γ] [Shw γ] [En δ] [Shw δ] : Shw (T4 α β γ δ) where
  dp := max (Shw.dp α) (max (Shw.dp β) (max (Shw.dp γ) (Shw.dp δ))) + 1
  ok := fun x => Shw.ok x.a ∧ Shw.ok x.b ∧ Shw.ok x.c ∧ Shw.ok x.d
  wt := fun x => Shw.wt x.a + Shw.wt x.b + Shw.wt x.c + Shw.wt x.d + 1
  hok := fun x h => by show shOk (.tuple [en x.a, en x.b, en x.c, en x.d]) = true; simp only [shOk, shOkA, Shw.hok x.a h.1, Shw.hok x.b h.2.1, Shw.hok x.c h.2.2.1, Shw.hok x.d h.2.2.2, Bool.and_true]
  hwt := fun x => by have h1 := Shw.hwt x.a; have h2 := Shw.hwt x.b; have h3 := Shw.hwt x.c; have h4 := Shw.hwt x.d; show shW (.tuple [en x.a, en x.b, en x.c, en x.d]) ≤ _; simp only [shW, shWA]; omega
  hdp := fun x => by have h1 := Shw.hdp x.a; have h2 := Shw.hdp x.b; have h3 := Shw.hdp x.c; have h4 := Shw.hdp x.d; show (PyData.tuple [en x.a, en x.b, en x.c, en x.d]).depth ≤ _; simp only [PyData.depth, PyData.depthAll]; omega
theorem repr_of {α : Type} [En α] [Shw α] (a : α) (h : Shw.ok a) (hw : Shw.wt a ≤ 20000) (hd : Shw.dp α ≤ 64) (hf : flatD (en a) = false := by rfl) : reprR (en a) = .ok (en a).shown :=
  repr_eq (Shw.hok a h) (Nat.le_trans (Shw.hdp a) hd) (Nat.le_trans (Shw.hwt a) hw) hf
theorem repr_two {α β : Type} [En α] [Shw α] [En β] [Shw β] (a : α) (b : β) (h : Shw.ok a) (h' : Shw.ok b) (hw : Shw.wt a + Shw.wt b ≤ 19000) (hd : max (Shw.dp α) (Shw.dp β) ≤ 63) : reprR (en ([en a, en b] : List D)) = .ok (en ([en a, en b] : List D)).shown := by
  have w1 := Shw.hwt a
  have w2 := Shw.hwt b
  have d1 := Shw.hdp a
  have d2 := Shw.hdp b
  refine repr_eq (d := .list [en a, en b]) ?_ ?_ ?_ rfl
  · simp only [shOk, shOkA, Shw.hok a h, Shw.hok b h', Bool.and_true]
  · simp only [PyData.depth, PyData.depthAll]; omega
  · simp only [shW, shWA]; omega
theorem sum_le {α : Type} {f : α → Nat} {c : Nat} : ∀ {l : List α}, (∀ x ∈ l, f x ≤ c) → (l.map f).sum ≤ c * l.length
  | [], _ => by simp
  | a :: l, h => by
    have h1 := h a List.mem_cons_self
    have h2 := sum_le (l := l) fun x hx => h x (List.mem_cons_of_mem _ hx)
    simp only [List.map_cons, List.sum_cons, List.length_cons, Nat.mul_add, Nat.mul_one]; omega
theorem small_ok {i : Int} (h : i.natAbs < 1000000000000) : Shw.ok i := Nat.lt_of_lt_of_le h (by decide +kernel)
end Tx

set_option Elab.async false
set_option linter.all false
set_option maxRecDepth 100000
set_option maxHeartbeats 4000000
/-! printed by gen_law2.py for k07: the functions -/
namespace Lw
open PySem Tx En EnL
structure CTableau where
  columns : Int
  size : Int
  rows : (List (List Int))
  basis : (List Int)
  scale : Int
  costs : (List Int)
abbrev ns_Tableau : List Str := ["columns", "size", "rows", "basis", "scale", "costs"]
abbrev vs_Tableau (s : CTableau) : List D := [en s.columns, en s.size, en s.rows, en s.basis, en s.scale, en s.costs]
instance : En CTableau := ⟨fun s => insV "Tableau" ns_Tableau (vs_Tableau s)⟩
abbrev shs_Tableau : List Sh := [.frz, .frz, (.lst .frz), (.lst .frz), .frz, .frz]
abbrev sh_Tableau : Sh := .ins "Tableau" (zipS ns_Tableau shs_Tableau)
inductive SolA where
  | no (x1 : (List Int))
  | yes (x1 : (List (Int × Int)))
def SolA.word : SolA → Str
  | .no _ => "no"
  | .yes _ => "yes"
def SolA.d1 : SolA → D
  | .no x1 => en x1
  | .yes x1 => en x1
instance : En SolA := ⟨fun u => .tuple [.str u.word, u.d1]⟩
structure SolA1 where
  u : SolA
instance : En SolA1 := ⟨fun x => x.u.d1⟩
theorem SolA.hw (u : SolA) : ixD (en u) (.int 0) = .ok (en u.word) := by cases u <;> rfl
def SolA.mkno (x : (Str × (List Int))) : R SolA := if x.1 = "no" then .ok (.no x.2) else .no
theorem SolA.mkno_ok (x1 : (List Int)) : SolA.mkno ("no", x1) = .ok (.no x1) := if_pos rfl
theorem SolA.mkno_h (x : (Str × (List Int))) : (∃ b, SolA.mkno x = .ok b ∧ en b = en x) ∨ SolA.mkno x = .no := by
  by_cases h : x.1 = "no"
  · exact .inl ⟨_, if_pos h, by show PyData.tuple (.str "no" :: _) = PyData.tuple (.str x.1 :: _); rw [h]; rfl⟩
  · exact .inr (if_neg h)
def SolA.no1 : SolA → R (List Int)
  | .no x => .ok x
  | _ => .no
theorem SolA.no1_h (u : SolA) : (∃ y, SolA.no1 u = .ok y ∧ ixD (en u) (.int 1) = .ok (en y)) ∨ SolA.no1 u = .no := by
  cases u
  · exact .inl ⟨_, rfl, rfl⟩
  · exact .inr rfl
theorem SolA.no1_v (x : SolA1) : (∃ y, (fun x : SolA1 => SolA.no1 x.u) x = .ok y ∧ en y = en x) ∨ (fun x : SolA1 => SolA.no1 x.u) x = .no := by
  obtain ⟨u⟩ := x
  cases u
  · exact .inl ⟨_, rfl, rfl⟩
  · exact .inr rfl
def SolA.mkyes (x : (Str × (List (Int × Int)))) : R SolA := if x.1 = "yes" then .ok (.yes x.2) else .no
theorem SolA.mkyes_ok (x1 : (List (Int × Int))) : SolA.mkyes ("yes", x1) = .ok (.yes x1) := if_pos rfl
theorem SolA.mkyes_h (x : (Str × (List (Int × Int)))) : (∃ b, SolA.mkyes x = .ok b ∧ en b = en x) ∨ SolA.mkyes x = .no := by
  by_cases h : x.1 = "yes"
  · exact .inl ⟨_, if_pos h, by show PyData.tuple (.str "yes" :: _) = PyData.tuple (.str x.1 :: _); rw [h]; rfl⟩
  · exact .inr (if_neg h)
def SolA.yes1 : SolA → R (List (Int × Int))
  | .yes x => .ok x
  | _ => .no
theorem SolA.yes1_h (u : SolA) : (∃ y, SolA.yes1 u = .ok y ∧ ixD (en u) (.int 1) = .ok (en y)) ∨ SolA.yes1 u = .no := by
  cases u
  · exact .inr rfl
  · exact .inl ⟨_, rfl, rfl⟩
theorem SolA.yes1_v (x : SolA1) : (∃ y, (fun x : SolA1 => SolA.yes1 x.u) x = .ok y ∧ en y = en x) ∨ (fun x : SolA1 => SolA.yes1 x.u) x = .no := by
  obtain ⟨u⟩ := x
  cases u
  · exact .inr rfl
  · exact .inl ⟨_, rfl, rfl⟩
noncomputable def f_fraction (top1 : Int) (low2 : Int) : R (Int × Int) :=
  (R.ok (gcdI top1 low2)).bind fun divisor3 =>
  (iteR (R.ok (decide (low2 < (0 : Int))))
  ((R.ok (-divisor3)).bind fun divisor5 =>
  R.ok divisor5)
  (R.ok divisor3)).bind fun s4 =>
  ((divR top1 s4).bind fun x6 => (divR low2 s4).bind fun x7 => R.ok (x6, x7))

noncomputable def f_Tableau_aim_l1 (self6 : CTableau) (costs7 : (List Int)) (x1_ : (Int × (List Int))) (s1 : (List Int)) : R (List Int) :=
  ((ixR self6.basis x1_.1).bind fun x8 => (ixR costs7 x8)).bind fun cost9 =>
  (noX (mapR (fun v10 : (Int × Int) => ((mulR cost9 v10.2).bind fun x11 => R.ok (v10.1 - x11))) (s1.zip x1_.2))).bind fun found12 =>
  R.ok found12
noncomputable def f_Tableau_aim (self1 : CTableau) (costs2 : (List Int)) : R CTableau :=
  ((noX (mapR (fun v3 : Int => (mulR self1.scale v3)) costs2)).bind fun x4 => (catR x4 ([(0 : Int)] : List Int))).bind fun found5 =>
  (R.ok (enumL 0 self1.rows)).bind fun xs1 => (forR (f_Tableau_aim_l1 self1 costs2) xs1 found5).bind fun s1' =>
  (R.ok s1').bind fun costs13 =>
  R.ok (CTableau.mk self1.columns self1.size self1.rows self1.basis self1.scale costs13)

noncomputable def f_Tableau_init_l1 (columns6 : Int) (size7 : Int) (columns8 : Int) (x1_ : (Int × (List Int))) (s1 : (List (List Int))) : R (List (List Int)) :=
  ((rng1 size7).bind fun x10 => R.ok (x10.map (fun v9 : Int => (if (decide (v9 = x1_.1)) = true then (1 : Int) else (0 : Int))))).bind fun marks11 =>
  (((catR (cutL x1_.2 none (some columns8)) marks11).bind fun x14 => ((ixR x1_.2 columns8).bind fun x13 => R.ok ([x13] : List Int)).bind fun x15 => (catR x14 x15)).bind fun x18 => (appR s1 x18)).bind fun self_rows17 =>
  R.ok self_rows17
noncomputable def f_Tableau_init (equations1 : (List (List Int))) (columns2 : Int) : R CTableau :=
  (R.ok columns2).bind fun columns3 =>
  (R.ok (equations1.length : Int)).bind fun size4 =>
  (R.ok ([] : List (List Int))).bind fun rows5 =>
  (R.ok (enumL 0 equations1)).bind fun xs1 => (forR (f_Tableau_init_l1 columns3 size4 columns2) xs1 rows5).bind fun s1' =>
  ((rng1 size4).bind fun x21 => R.ok (x21.map (fun v20 : Int => (columns2 + v20)))).bind fun basis19 =>
  (R.ok (1 : Int)).bind fun scale22 =>
  (R.ok ([] : List Int)).bind fun costs23 =>
  (((repR ([(0 : Int)] : List Int) columns2).bind fun x24 => (repR ([(1 : Int)] : List Int) size4).bind fun x25 => (catR x24 x25)).bind fun x27 => (f_Tableau_aim (CTableau.mk columns3 size4 s1' basis19 scale22 costs23) x27)).bind fun self26 =>
  R.ok self26

noncomputable def f_Tableau_entering_l1 (self2 : CTableau) (x1_ : Int) (s1 : Unit) : R (Lc Unit (Option Int)) :=
  iteR ((ixR self2.costs x1_).bind fun x3 => R.ok (decide (x3 < (0 : Int))))
  (R.ok (Lc.rt (some x1_)))
  (R.ok (Lc.nx ()))
noncomputable def f_Tableau_entering (self1 : CTableau) : R (Option Int) :=
  (rng1 self1.columns).bind fun xs1 => thenR (loopR (f_Tableau_entering_l1 self1) xs1 ()) fun s1' =>
  R.ok (none : (Option Int))

noncomputable def f_Tableau_leaving_l1 (self4 : CTableau) (column5 : Int) (x1_ : (Int × (List Int))) (s1 : (Option Int)) : R (Option Int) :=
  iteR ((ixR x1_.2 column5).bind fun x6 => R.ok (decide ((0 : Int) < x6)))
  (iteR (R.ok (s1.isNone))
  ((R.ok (some x1_.1)).bind fun best7 =>
  R.ok best7)
  (((ixR x1_.2 (-(1 : Int))).bind fun x10 => ((((R.ok s1).bind unO).bind fun x8 => (ixR self4.rows x8)).bind fun x9 => (ixR x9 column5)).bind fun x11 => (mulR x10 x11)).bind fun mine12 =>
  (((((R.ok s1).bind unO).bind fun x13 => (ixR self4.rows x13)).bind fun x14 => (ixR x14 (-(1 : Int)))).bind fun x15 => (ixR x1_.2 column5).bind fun x16 => (mulR x15 x16)).bind fun other17 =>
  iteR (orR (R.ok (decide (mine12 < other17))) (andR (R.ok (decide (mine12 = other17))) ((ixR self4.basis x1_.1).bind fun x19 => (((R.ok s1).bind unO).bind fun x18 => (ixR self4.basis x18)).bind fun x20 => R.ok (decide (x19 < x20)))))
  ((R.ok (some x1_.1)).bind fun best21 =>
  R.ok best21)
  (R.ok s1)))
  (R.ok s1)
noncomputable def f_Tableau_leaving (self1 : CTableau) (column2 : Int) : R (Option Int) :=
  (R.ok (none : (Option Int))).bind fun best3 =>
  (R.ok (enumL 0 self1.rows)).bind fun xs1 => (forR (f_Tableau_leaving_l1 self1 column2) xs1 best3).bind fun s1' =>
  R.ok s1'

noncomputable def f_Tableau_cleared (self1 : CTableau) (row2 : (List Int)) (chosen3 : (List Int)) (pivot4 : Int) (column5 : Int) : R (List Int) :=
  (ixR row2 column5).bind fun factor6 =>
  (noX (mapR (fun v11 : (Int × Int) => (((mulR v11.1 pivot4).bind fun x12 => (mulR factor6 v11.2).bind fun x13 => R.ok (x12 - x13)).bind fun x14 => (divR x14 self1.scale))) (row2.zip chosen3)))

noncomputable def f_Tableau_turn_l1 (self8 : CTableau) (at'9 : Int) (column10 : Int) (pivot11 : Int) (chosen12 : (List Int)) (x1_ : (Int × (List Int))) (s1 : (List (List Int))) : R (List (List Int)) :=
  ((iteR (R.ok (decide (x1_.1 = at'9))) (R.ok chosen12) (f_Tableau_cleared self8 x1_.2 chosen12 pivot11 column10)).bind fun x14 => (appR s1 x14)).bind fun fresh13 =>
  R.ok fresh13
noncomputable def f_Tableau_turn (self1 : CTableau) (at'2 : Int) (column3 : Int) : R CTableau :=
  ((ixR self1.rows at'2).bind fun x4 => (ixR x4 column3)).bind fun pivot5 =>
  (ixR self1.rows at'2).bind fun chosen6 =>
  (R.ok ([] : List (List Int))).bind fun fresh7 =>
  (R.ok (enumL 0 self1.rows)).bind fun xs1 => (forR (f_Tableau_turn_l1 self1 (at'2) column3 pivot5 chosen6) xs1 fresh7).bind fun s1' =>
  (f_Tableau_cleared self1 self1.costs chosen6 pivot5 column3).bind fun costs15 =>
  (R.ok s1').bind fun rows16 =>
  (R.ok pivot5).bind fun scale17 =>
  (putR self1.basis at'2 column3).bind fun self_basis20 =>
  R.ok (CTableau.mk self1.columns self1.size rows16 self_basis20 scale17 costs15)

noncomputable def f_Tableau_search_t1  (s1 : ((Option Int) × CTableau)) : R Bool :=
  (R.ok (s1.1.isSome))
noncomputable def f_Tableau_search_l1  (s1 : ((Option Int) × CTableau)) : R ((Option Int) × CTableau) :=
  (((((R.ok s1.1).bind unO).bind fun x3 => (f_Tableau_leaving s1.2 x3)).bind unO).bind fun x6 => ((R.ok s1.1).bind unO).bind fun x7 => (f_Tableau_turn s1.2 x6 x7)).bind fun self4 =>
  (f_Tableau_entering self4).bind fun column5 =>
  R.ok (column5, self4)
noncomputable def f_Tableau_search (self1 : CTableau) : R CTableau :=
  (f_Tableau_entering self1).bind fun column2 =>
  (whileR (f_Tableau_search_t1 ) (f_Tableau_search_l1 ) (column2, self1)).bind fun s1' =>
  R.ok (s1'.2)

noncomputable def f_Tableau_found_l1 (self3 : CTableau) (x1_ : (Int × Int)) (s1 : (List Int)) : R (List Int) :=
  iteR (R.ok (decide (x1_.2 < self3.columns)))
  ((((ixR self3.rows x1_.1).bind fun x4 => (ixR x4 (-(1 : Int)))).bind fun x6 => (putR s1 x1_.2 x6)).bind fun values5 =>
  R.ok values5)
  (R.ok s1)
noncomputable def f_Tableau_found (self1 : CTableau) : R (List Int) :=
  (repR ([(0 : Int)] : List Int) self1.columns).bind fun values2 =>
  (R.ok (enumL 0 self1.basis)).bind fun xs1 => (forR (f_Tableau_found_l1 self1) xs1 values2).bind fun s1' =>
  R.ok s1'

noncomputable def f_equations_of_l1 (conditions4 : (List (List Int))) (x1_ : (Int × Int)) (s1 : (List (List Int))) : R (List (List Int)) :=
  (((noX (mapR (fun v5 : (List Int) => (ixR v5 (x1_.1 + (1 : Int)))) conditions4)).bind fun x6 => (catR x6 ([x1_.2] : List Int))).bind fun x8 => (appR s1 x8)).bind fun found7 =>
  R.ok found7
noncomputable def f_equations_of (conditions1 : (List (List Int))) (goals2 : (List Int)) : R (List (List Int)) :=
  (R.ok ([] : List (List Int))).bind fun found3 =>
  (R.ok (enumL 0 goals2)).bind fun xs1 => (forR (f_equations_of_l1 conditions1) xs1 found3).bind fun s1' =>
  R.ok s1'

noncomputable def f_without_divisor_l1 (integers3 : (List Int)) (x1_ : Int) (s1 : Int) : R Int :=
  (R.ok (gcdI s1 x1_)).bind fun divisor4 =>
  R.ok divisor4
noncomputable def f_without_divisor (integers1 : (List Int)) : R (List Int) :=
  (R.ok (0 : Int)).bind fun divisor2 =>
  (R.ok integers1).bind fun xs1 => (forR (f_without_divisor_l1 integers1) xs1 divisor2).bind fun s1' =>
  (noX (mapR (fun v6 : Int => (divR v6 s1')) integers1))

noncomputable def f_solve (conditions1 : (List (List Int))) (count2 : Int) : R SolA :=
  iteR (R.ok ((decide (count2 < (0 : Int))) || ((conditions1.map (fun v3 : (List Int) => (decide ((v3.length : Int) ≠ (count2 + (1 : Int)))))).any id)))
  (R.ex 3)
  (((noX (mapR (fun v4 : (List Int) => ((ixR v4 (0 : Int)).bind fun x5 => R.ok (-x5))) conditions1)).bind fun x6 => (catR x6 ([(1 : Int)] : List Int))).bind fun firsts7 =>
  ((((repR ([(0 : Int)] : List Int) count2).bind fun x8 => (f_equations_of conditions1 x8)).bind fun x9 => (catR x9 ([firsts7] : List (List Int)))).bind fun x10 => (f_Tableau_init x10 (conditions1.length : Int))).bind fun tableau11 =>
  (f_Tableau_search tableau11).bind fun tableau12 =>
  iteR ((ixR tableau12.costs (-(1 : Int))).bind fun x13 => R.ok (decide (x13 = (0 : Int))))
  ((((f_Tableau_found tableau12).bind fun x21 => (f_without_divisor x21)).bind fun x22 => R.ok (SolA.no x22)))
  (((rng1 (count2 + (1 : Int))).bind fun x25 => (noX (mapR (fun v23 : Int => ((ixR tableau12.costs ((conditions1.length : Int) + v23)).bind fun x24 => R.ok (tableau12.scale - x24))) x25))).bind fun prices26 =>
  ((noX (mapR (fun v38 : Int => ((ixR prices26 (-(1 : Int))).bind fun x39 => (f_fraction (-v38) x39))) (cutL prices26 none (some (-(1 : Int)))))).bind fun x40 => R.ok (SolA.yes x40))))

noncomputable def f_law_cell (script1 : (List Int)) (k2 : Int) : R Int :=
  iteR (R.ok (decide (k2 < (script1.length : Int))))
  (((ixR script1 k2).bind fun x3 => R.ok x3))
  (R.ok (0 : Int))

noncomputable def f_law_draws_l1 (free8 : Bool) (x1_ : Int) (s1 : ((List Int) × Int × Int)) : R ((List Int) × Int × Int) :=
  iteR (R.ok (free8 && (decide ((1 : Int) < s1.2.1))))
  (((modR s1.2.1 x1_).bind fun x11 => (appR s1.1 x11)).bind fun found9 =>
  (divR s1.2.1 x1_).bind fun rest10 =>
  R.ok (found9, rest10, s1.2.2))
  (((((mulR s1.2.2 (48271 : Int)).bind fun x12 => R.ok (x12 + (11 : Int))).bind fun x13 => R.ok x13).bind fun x14 => (modR x14 (2147483647 : Int))).bind fun state15 =>
  ((((mulR state15 (69621 : Int)).bind fun x16 => R.ok (x16 + (7 : Int))).bind fun x17 => R.ok x17).bind fun x18 => (modR x18 (2147483647 : Int))).bind fun state19 =>
  ((((divR state19 (13 : Int)).bind fun x20 => R.ok x20).bind fun x21 => (modR x21 x1_)).bind fun x23 => (appR s1.1 x23)).bind fun found22 =>
  R.ok (found22, s1.2.1, state19))
noncomputable def f_law_draws (cell1 : Int) (limits2 : (List Int)) : R (List Int) :=
  (R.ok ([] : List Int)).bind fun found3 =>
  (R.ok (absI cell1)).bind fun rest4 =>
  (modR rest4 (2147483647 : Int)).bind fun state5 =>
  (orR (R.ok (decide (cell1 < (0 : Int)))) ((powR (10 : Int) (18 : Int)).bind fun x6 => R.ok (decide (x6 ≤ cell1)))).bind fun free7 =>
  (R.ok limits2).bind fun xs1 => (forR (f_law_draws_l1 free7) xs1 (found3, rest4, state5)).bind fun s1' =>
  R.ok s1'.1

noncomputable def f_law_gcd_l1  (x1_ : Int) (s1 : (Int × Int)) : R (Lc (Int × Int) Int) :=
  iteR (R.ok (decide (s1.2 = (0 : Int))))
  (R.ok (Lc.rt s1.1))
  ((modR s1.1 s1.2).bind fun rest5 =>
  (R.ok s1.2).bind fun a'6 =>
  (R.ok rest5).bind fun b7 =>
  R.ok (Lc.nx (a'6, b7)))
noncomputable def f_law_gcd (a'1 : Int) (b2 : Int) : R Int :=
  (R.ok (absI a'1)).bind fun a'3 =>
  (R.ok (absI b2)).bind fun b4 =>
  (rng1 (((bitsI a'3) + (bitsI b4)) + (4 : Int))).bind fun xs1 => thenR (loopR (f_law_gcd_l1 ) xs1 (a'3, b4)) fun s1' =>
  R.ok s1'.1

noncomputable def f_law_fraction (top1 : Int) (low2 : Int) : R (Int × Int) :=
  (f_law_gcd top1 low2).bind fun common3 =>
  (iteR (R.ok (decide (low2 < (0 : Int))))
  ((R.ok (-common3)).bind fun common5 =>
  R.ok common5)
  (R.ok common3)).bind fun s4 =>
  ((divR top1 s4).bind fun x6 => (divR low2 s4).bind fun x7 => R.ok (x6, x7))

noncomputable def f_law_plus (first1 : (Int × Int)) (second2 : (Int × Int)) : R (Int × Int) :=
  (((mulR first1.1 second2.2).bind fun x3 => (mulR second2.1 first1.2).bind fun x4 => R.ok (x3 + x4)).bind fun x5 => (mulR first1.2 second2.2).bind fun x6 => (f_law_fraction x5 x6))

noncomputable def f_law_shorter_l1 (row3 : (List Int)) (x1_ : Int) (s1 : Int) : R Int :=
  (f_law_gcd s1 x1_).bind fun common4 =>
  R.ok common4
noncomputable def f_law_shorter (row1 : (List Int)) : R (List Int) :=
  (R.ok (0 : Int)).bind fun common2 =>
  (R.ok row1).bind fun xs1 => (forR (f_law_shorter_l1 row1) xs1 common2).bind fun s1' =>
  iteR (R.ok (decide (s1' < (2 : Int))))
  (R.ok row1)
  ((noX (mapR (fun v5 : Int => (divR v5 s1')) row1)))

noncomputable def f_law_without_l2 (place12 : Int) (row13 : (List Int)) (size14 : Int) (sign15 : Int) (x2_ : (List Int)) (s2 : (List (List Int))) : R (List (List Int)) :=
  (((rng1 (row13.length : Int)).bind fun x23 => (noX (mapR (fun v16 : Int => (((ixR x2_ v16).bind fun x17 => (mulR size14 x17)).bind fun x21 => (((ixR x2_ place12).bind fun x18 => (mulR sign15 x18)).bind fun x19 => (ixR row13 v16).bind fun x20 => (mulR x19 x20)).bind fun x22 => R.ok (x21 - x22))) x23))).bind fun x24 => (f_law_shorter x24)).bind fun fresh25 =>
  iteR (R.ok ((fresh25.any fun y => y != 0) && (nmemD fresh25 s2)))
  ((appR s2 fresh25).bind fun found26 =>
  R.ok found26)
  (R.ok s2)
noncomputable def f_law_without_l1 (rows3 : (List (List Int))) (place4 : Int) (x1_ : (List Int)) (s1 : Unit) : R (Lc Unit (List (List Int))) :=
  iteR (andR ((ixR x1_ place4).bind fun x5 => R.ok (decide (x5 ≠ (0 : Int)))) (R.ok (memD (x1_.map (fun v6 : Int => (-v6))) rows3)))
  (((ixR x1_ place4).bind fun x7 => R.ok (absI x7)).bind fun size8 =>
  ((ixR x1_ place4).bind fun x9 => (divR x9 size8)).bind fun sign10 =>
  (R.ok ([] : List (List Int))).bind fun found11 =>
  (R.ok rows3).bind fun xs2 => (forR (f_law_without_l2 place4 x1_ size8 sign10) xs2 found11).bind fun s2' =>
  R.ok (Lc.rt s2'))
  (R.ok (Lc.nx ()))
noncomputable def f_law_without_l3 (rows28 : (List (List Int))) (place29 : Int) (x3_ : (List Int)) (s3 : (List (List Int))) : R (List (List Int)) :=
  iteR (andR ((ixR x3_ place29).bind fun x30 => R.ok (decide (x30 = (0 : Int)))) (R.ok (nmemD x3_ s3)))
  ((appR s3 x3_).bind fun found31 =>
  R.ok found31)
  (R.ok s3)
noncomputable def f_law_without_l5 (rows34 : (List (List Int))) (place35 : Int) (up36 : (List Int)) (x5_ : (List Int)) (s5 : (List (List Int))) : R (List (List Int)) :=
  iteR (andR ((ixR up36 place35).bind fun x37 => R.ok (decide ((0 : Int) < x37))) ((ixR x5_ place35).bind fun x38 => R.ok (decide (x38 < (0 : Int)))))
  ((((rng1 (up36.length : Int)).bind fun x46 => (noX (mapR (fun v39 : Int => (((ixR up36 place35).bind fun x40 => (ixR x5_ v39).bind fun x41 => (mulR x40 x41)).bind fun x44 => ((ixR x5_ place35).bind fun x42 => (ixR up36 v39).bind fun x43 => (mulR x42 x43)).bind fun x45 => R.ok (x44 - x45))) x46))).bind fun x47 => (f_law_shorter x47)).bind fun fresh48 =>
  iteR (R.ok ((fresh48.any fun y => y != 0) && (nmemD fresh48 s5)))
  ((appR s5 fresh48).bind fun found49 =>
  R.ok found49)
  (R.ok s5))
  (R.ok s5)
noncomputable def f_law_without_l4 (rows32 : (List (List Int))) (place33 : Int) (x4_ : (List Int)) (s4 : (List (List Int))) : R (List (List Int)) :=
  (R.ok rows32).bind fun xs5 => (forR (f_law_without_l5 rows32 place33 x4_) xs5 s4).bind fun s5' =>
  R.ok (s5')
noncomputable def f_law_without (rows1 : (List (List Int))) (place2 : Int) : R (List (List Int)) :=
  (R.ok rows1).bind fun xs1 => thenR (loopR (f_law_without_l1 rows1 place2) xs1 ()) fun s1' =>
  (R.ok ([] : List (List Int))).bind fun found27 =>
  (R.ok rows1).bind fun xs3 => (forR (f_law_without_l3 rows1 place2) xs3 found27).bind fun s3' =>
  (R.ok rows1).bind fun xs4 => (forR (f_law_without_l4 rows1 place2) xs4 (s3')).bind fun s4' =>
  R.ok s4'

noncomputable def f_law_possible_l1 (count5 : Int) (x1_ : Int) (s1 : (List (List Int))) : R (List (List Int)) :=
  (f_law_without s1 (count5 - x1_)).bind fun rows6 =>
  R.ok rows6
noncomputable def f_law_possible (conditions1 : (List (List Int))) (count2 : Int) : R Bool :=
  (noX (fmapR (fun v3 : (List Int) => (R.ok (v3.any fun y => y != 0))) (fun v3 : (List Int) => (f_law_shorter v3)) conditions1)).bind fun rows4 =>
  (rng1 count2).bind fun xs1 => (forR (f_law_possible_l1 count2) xs1 rows4).bind fun s1' =>
  ((noX (mapR (fun v7 : (List Int) => ((ixR v7 (0 : Int)).bind fun x8 => R.ok (decide ((0 : Int) ≤ x8)))) s1')).bind fun x9 => R.ok (x9.all id))

noncomputable def f_law_scaled (first1 : (Int × Int)) (number2 : Int) : R (Int × Int) :=
  ((mulR first1.1 number2).bind fun x3 => (f_law_fraction x3 first1.2))

noncomputable def f_law_sum_l1  (x1_ : (Int × Int)) (s1 : (Int × Int)) : R (Int × Int) :=
  (f_law_plus s1 x1_).bind fun found3 =>
  R.ok found3
noncomputable def f_law_sum (fractions1 : (List (Int × Int))) : R (Int × Int) :=
  (R.ok ((0 : Int), (1 : Int))).bind fun found2 =>
  (R.ok fractions1).bind fun xs1 => (forR (f_law_sum_l1 ) xs1 found2).bind fun s1' =>
  R.ok s1'

noncomputable def f_law_is_refusal (rows1 : (List (List Int))) (integers2 : (List Int)) : R Bool :=
  iteR (R.ok ((decide ((integers2.length : Int) ≠ (rows1.length : Int))) || ((integers2.map (fun v3 : Int => (decide (v3 < (0 : Int))))).any id)))
  (R.ok false)
  ((R.ok (1 : Int)).bind fun width4 =>
  (iteR (R.ok (decide ((0 : Int) < (rows1.length : Int))))
  (((ixR rows1 (0 : Int)).bind fun x6 => R.ok (x6.length : Int)).bind fun width7 =>
  R.ok width7)
  (R.ok width4)).bind fun s5 =>
  ((rng1 s5).bind fun x15 => (noX (mapR (fun v8 : Int => (((rng1 (rows1.length : Int)).bind fun x13 => (noX (mapR (fun v9 : Int => ((ixR integers2 v9).bind fun x11 => ((ixR rows1 v9).bind fun x10 => (ixR x10 v8)).bind fun x12 => (mulR x11 x12))) x13))).bind fun x14 => R.ok x14.sum)) x15))).bind fun sums16 =>
  (andR ((ixR sums16 (0 : Int)).bind fun x17 => R.ok (decide (x17 < (0 : Int)))) (R.ok (!((cutL sums16 (some (1 : Int)) none).any fun y => y != 0)))))

noncomputable def f_law_refused (rows1 : (List (List Int))) (count2 : Int) : R Bool :=
  (reprR (en rows1)).bind fun before3 =>
  tryR 3 (f_solve rows1 count2)
  ((R.ok (true && (true && (!false)))).bind fun good4 =>
  (andR (R.ok good4) ((reprR (en rows1)).bind fun x5 => R.ok (decide (x5 = before3)))))
  (R.ok false)

noncomputable def f_law_rows_l1 (count13 : Int) (draws14 : (List Int)) (parts15 : (List Int)) (x1_ : Int) (s1 : (List (List Int))) : R (List (List Int)) :=
  ((((powR (10 : Int) (12 : Int)).bind fun x17 => (mulR (2 : Int) x17)).bind fun x18 => R.ok ([(3 : Int), (4 : Int), (7 : Int), (2001 : Int), x18] : List Int)).bind fun x19 => (ixR draws14 (1 : Int)).bind fun x20 => (ixR x19 x20)).bind fun size21 =>
  ((ixR parts15 x1_).bind fun x23 => ((repR ([size21] : List Int) ((1 : Int) + count13)).bind fun x22 => (catR ([(6 : Int)] : List Int) x22)).bind fun x24 => (f_law_draws x23 x24)).bind fun part25 =>
  (noX (mapR (fun v26 : Int => ((divR size21 (2 : Int)).bind fun x27 => R.ok (v26 - x27))) (cutL part25 (some (1 : Int)) none))).bind fun row28 =>
  (iteR (andR ((ixR part25 (0 : Int)).bind fun x29 => R.ok (decide (x29 = (0 : Int)))) (R.ok (decide ((0 : Int) < (s1.length : Int)))))
  (((ixR s1 (-(1 : Int))).bind fun x32 => R.ok (x32.map (fun v31 : Int => (-v31)))).bind fun row33 =>
  R.ok row33)
  (R.ok row28)).bind fun s30 =>
  (iteR (andR ((ixR part25 (0 : Int)).bind fun x34 => R.ok (decide (x34 = (1 : Int)))) (R.ok (decide ((0 : Int) < (s1.length : Int)))))
  ((((((ixR s1 (-(1 : Int))).bind fun x38 => (ixR x38 (0 : Int))).bind fun x39 => R.ok (x39 + (1 : Int))).bind fun x40 => R.ok ([x40] : List Int)).bind fun x42 => ((ixR s1 (-(1 : Int))).bind fun x41 => R.ok (cutL x41 (some (1 : Int)) none)).bind fun x43 => (catR x42 x43)).bind fun row44 =>
  R.ok row44)
  (R.ok s30)).bind fun s35 =>
  (appR s1 s35).bind fun rows45 =>
  R.ok rows45
noncomputable def f_law_rows (cell1 : Int) (more2 : Int) (count3 : Int) : R (List (List Int)) :=
  (((powR (10 : Int) (9 : Int)).bind fun x4 => R.ok ([(9 : Int), (5 : Int), x4] : List Int)).bind fun x5 => (f_law_draws cell1 x5)).bind fun draws6 =>
  (R.ok ([] : List (List Int))).bind fun rows7 =>
  ((((powR (10 : Int) (9 : Int)).bind fun x8 => R.ok ([x8] : List Int)).bind fun x9 => (repR x9 (9 : Int))).bind fun x10 => (f_law_draws more2 x10)).bind fun parts11 =>
  ((ixR draws6 (0 : Int)).bind fun x12 => (rng1 x12)).bind fun xs1 => (forR (f_law_rows_l1 count3 draws6 parts11) xs1 rows7).bind fun s1' =>
  ((ixR ([(8 : Int), (8 : Int), (7 : Int), (6 : Int), (5 : Int)] : List Int) count3).bind fun x47 => R.ok (cutL s1' none (some x47)))

noncomputable def f_law_satisfied_l1 (count6 : Int) (told7 : SolA) (x1_ : (List Int)) (s1 : Unit) : R (Lc Unit Bool) :=
  iteR (((((((ixR x1_ (0 : Int)).bind fun x8 => R.ok (x8, (1 : Int))).bind fun x9 => R.ok ([x9] : List (Int × Int))).bind fun x15 => ((rng1 count6).bind fun x14 => (noX (mapR (fun v10 : Int => (((SolA.yes1 told7).bind fun x11 => (ixR x11 v10)).bind fun x12 => (ixR x1_ ((1 : Int) + v10)).bind fun x13 => (f_law_scaled x12 x13))) x14))).bind fun x16 => (catR x15 x16)).bind fun x17 => (f_law_sum x17)).bind fun x18 => R.ok x18.1).bind fun x19 => R.ok (decide (x19 < (0 : Int))))
  (R.ok (Lc.rt false))
  (R.ok (Lc.nx ()))
noncomputable def f_law_satisfied (rows1 : (List (List Int))) (count2 : Int) (told3 : SolA) : R Bool :=
  iteR (orR (R.ok (decide (told3.word ≠ ("yes" : Str)))) (((SolA.yes1 told3).bind fun x4 => R.ok (x4.length : Int)).bind fun x5 => R.ok (decide (x5 ≠ count2))))
  (R.ok false)
  ((R.ok rows1).bind fun xs1 => thenR (loopR (f_law_satisfied_l1 count2 told3) xs1 ()) fun s1' =>
  R.ok true)

noncomputable def f_law_right_l1 (rows10 : (List (List Int))) (told11 : SolA) (x1_ : Int) (s1 : Int) : R Int :=
  (f_law_gcd s1 x1_).bind fun common12 =>
  R.ok common12
noncomputable def f_law_right_l2 (rows16 : (List (List Int))) (count17 : Int) (told18 : SolA) (x2_ : (Int × Int)) (s2 : Unit) : R (Lc Unit Bool) :=
  iteR (orR (R.ok (!true)) (orR ((f_law_fraction x2_.1 x2_.2).bind fun x19 => R.ok (decide (x2_ ≠ x19))) (R.ok (decide (x2_.2 < (1 : Int))))))
  (R.ok (Lc.rt false))
  (iteR (R.ok (((Tu.mk ([x2_.1, x2_.2] : List Int)).l.map (fun v20 : Int => false)).any id))
  (R.ok (Lc.rt false))
  (R.ok (Lc.nx ())))
noncomputable def f_law_right_l3 (count21 : Int) (told22 : SolA) (x3_ : (List Int)) (s3 : Unit) : R (Lc Unit Bool) :=
  iteR (((((((ixR x3_ (0 : Int)).bind fun x23 => R.ok (x23, (1 : Int))).bind fun x24 => R.ok ([x24] : List (Int × Int))).bind fun x30 => ((rng1 count21).bind fun x29 => (noX (mapR (fun v25 : Int => (((SolA.yes1 told22).bind fun x26 => (ixR x26 v25)).bind fun x27 => (ixR x3_ ((1 : Int) + v25)).bind fun x28 => (f_law_scaled x27 x28))) x29))).bind fun x31 => (catR x30 x31)).bind fun x32 => (f_law_sum x32)).bind fun x33 => R.ok x33.1).bind fun x34 => R.ok (decide (x34 < (0 : Int))))
  (R.ok (Lc.rt false))
  (R.ok (Lc.nx ()))
noncomputable def f_law_right (rows1 : (List (List Int))) (count2 : Int) (told3 : SolA) : R Bool :=
  iteR (orR (R.ok (!true)) (orR (R.ok (decide ((2 : Int) ≠ (2 : Int)))) ((isiR "list" (en (SolA1.mk told3))).bind fun x4 => R.ok (!x4))))
  (R.ok false)
  (iteR ((f_law_possible rows1 count2).bind fun x5 => R.ok (!x5))
  ((R.ok (0 : Int)).bind fun common6 =>
  iteR (orR (R.ok (decide (told3.word ≠ ("no" : Str)))) (((SolA.no1 told3).bind fun x8 => R.ok (x8.map (fun v7 : Int => false))).bind fun x9 => R.ok (x9.any id)))
  (R.ok false)
  ((SolA.no1 told3).bind fun xs1 => (forR (f_law_right_l1 rows1 told3) xs1 common6).bind fun s1' =>
  (andR ((SolA.no1 told3).bind fun x13 => (f_law_is_refusal rows1 x13)) (R.ok (decide (s1' = (1 : Int)))))))
  (iteR (orR (R.ok (decide (told3.word ≠ ("yes" : Str)))) (((SolA.yes1 told3).bind fun x14 => R.ok (x14.length : Int)).bind fun x15 => R.ok (decide (x15 ≠ count2))))
  (R.ok false)
  ((SolA.yes1 told3).bind fun xs2 => thenR (loopR (f_law_right_l2 rows1 count2 told3) xs2 ()) fun s2' =>
  (R.ok rows1).bind fun xs3 => thenR (loopR (f_law_right_l3 count2 told3) xs3 ()) fun s3' =>
  R.ok true)))

noncomputable def f_law_l2 (script49 : (List Int)) (x2_ : ((List (List Int)) × Int)) (s2 : Unit) : R (Lc Unit (Lc Unit Bool)) :=
  iteR ((f_law_refused x2_.1 x2_.2).bind fun x50 => R.ok (!x50))
  (R.ok (Lc.rt (Lc.rt false)))
  (R.ok (Lc.nx ()))
noncomputable def f_law_l1 (script2 : (List Int)) (x1_ : Int) (s1 : Unit) : R (Lc Unit Bool) :=
  (((f_law_cell script2 (x1_ + (2 : Int))).bind fun x3 => R.ok x3).bind fun x4 => (modR x4 (5 : Int))).bind fun count5 =>
  ((f_law_cell script2 x1_).bind fun x6 => (f_law_cell script2 (x1_ + (1 : Int))).bind fun x7 => (f_law_rows x6 x7 count5)).bind fun rows8 =>
  (reprR (en rows8)).bind fun before9 =>
  (f_solve rows8 count5).bind fun told10 =>
  iteR (orR ((f_law_right rows8 count5 told10).bind fun x11 => R.ok (!x11)) ((reprR (en rows8)).bind fun x12 => R.ok (decide (x12 ≠ before9))))
  (R.ok (Lc.rt false))
  ((f_solve rows8 count5).bind fun again13 =>
  ((tplP (en told10) (1 : Int)).bind fun q51 => (appR q51.1 (en (7 : Int))).bind fun c52 => R.ok (q51.2 c52)).bind fun told14 =>
  iteR (orR ((f_law_right rows8 count5 again13).bind fun x15 => R.ok (!x15)) (orR (((f_solve rows8 count5).bind fun x16 => (f_law_right rows8 count5 x16)).bind fun x17 => R.ok (!x17)) ((reprR (en rows8)).bind fun x18 => R.ok (decide (x18 ≠ before9)))))
  (R.ok (Lc.rt false))
  (((((f_law_cell script2 (x1_ + (2 : Int))).bind fun x19 => R.ok x19).bind fun x20 => (modR x20 (1000 : Int))).bind fun x21 => R.ok ((1 : Int) + x21)).bind fun far22 =>
  (modR far22 ((rows8.length : Int) + (1 : Int))).bind fun at'23 =>
  ((repR ([(0 : Int)] : List Int) count5).bind fun x24 => (catR ([(1 : Int)] : List Int) x24)).bind fun good25 =>
  (((((modR far22 (3 : Int)).bind fun x34 => R.ok ((1 : Int) + x34)).bind fun x35 => (repR ([([] : List Int)] : List (List Int)) x35)).bind fun x36 => R.ok (x36, (-(1 : Int)))).bind fun x45 => (((((catR good25 ([(1 : Int)] : List Int)).bind fun x37 => R.ok ([x37] : List (List Int))).bind fun x38 => (catR (cutL rows8 none (some at'23)) x38)).bind fun x39 => (catR x39 (cutL rows8 (some at'23) none))).bind fun x40 => R.ok (x40, count5)).bind fun x46 => (((catR (cutL rows8 none (some at'23)) ([(cutL good25 (some (1 : Int)) none)] : List (List Int))).bind fun x41 => (catR x41 (cutL rows8 (some at'23) none))).bind fun x42 => R.ok (x42, count5)).bind fun x47 => (((catR (cutL rows8 none (some at'23)) ([([] : List Int)] : List (List Int))).bind fun x43 => (catR x43 (cutL rows8 (some at'23) none))).bind fun x44 => R.ok (x44, count5)).bind fun x48 => R.ok ([x45, (rows8, (-far22)), x46, x47, x48] : List ((List (List Int)) × Int))).bind fun xs2 => thenR (loopR (f_law_l2 script2) xs2 ()) fun s2' =>
  R.ok (Lc.nx ())))
noncomputable def f_law (script1 : (List Int)) : R Bool :=
  (rng3 (0 : Int) ((min2 (script1.length : Int) (24 : Int)) + (3 : Int)) (3 : Int)).bind fun xs1 => thenR (loopR (f_law_l1 script1) xs1 ()) fun s1' =>
  ((((f_law_cell script1 (0 : Int)).bind fun x53 => R.ok x53).bind fun x54 => (modR x54 (8 : Int))).bind fun x55 => R.ok ((5 : Int) + x55)).bind fun many56 =>
  ((rng1 many56).bind fun x61 => (noX (mapR (fun v57 : Int => (((rng1 many56).bind fun x59 => R.ok (x59.map (fun v58 : Int => (if (decide (v58 = v57)) then (1 : Int) else 0)))).bind fun x60 => (catR ([(-v57)] : List Int) x60))) x61))).bind fun bounds62 =>
  iteR (((f_solve bounds62 many56).bind fun x63 => (f_law_satisfied bounds62 many56 x63)).bind fun x64 => R.ok (!x64))
  (R.ok false)
  ((((((repR ([(-(1 : Int))] : List Int) many56).bind fun x69 => (catR ([(-(1 : Int))] : List Int) x69)).bind fun x70 => R.ok ([x70] : List (List Int))).bind fun x71 => (catR bounds62 x71)).bind fun x72 => (f_solve x72 many56)).bind fun told73 =>
  iteR (orR (R.ok (decide (told73.word ≠ ("no" : Str)))) ((((((repR ([(-(1 : Int))] : List Int) many56).bind fun x77 => (catR ([(-(1 : Int))] : List Int) x77)).bind fun x78 => R.ok ([x78] : List (List Int))).bind fun x79 => (catR bounds62 x79)).bind fun x80 => (SolA.no1 told73).bind fun x81 => (f_law_is_refusal x80 x81)).bind fun x82 => R.ok (!x82)))
  (R.ok false)
  ((andR ((f_solve ([] : List (List Int)) (0 : Int)).bind fun x83 => (eqD (en x83) (en (SolA.yes ([] : List (Int × Int)))))) (andR ((f_solve ([([(-(3 : Int))] : List Int)] : List (List Int)) (0 : Int)).bind fun x84 => (eqD (en x84) (en (SolA.no ([(1 : Int)] : List Int))))) ((f_solve ([([(0 : Int)] : List Int)] : List (List Int)) (0 : Int)).bind fun x85 => (eqD (en x85) (en (SolA.yes ([] : List (Int × Int))))))))))

end Lw

set_option Elab.async false
set_option linter.all false
set_option maxRecDepth 100000
set_option maxHeartbeats 4000000
/-! printed by gen_law2.py for k07: that the defs hand them back -/
namespace Lw
open PySem L2 PyProof.Rows Tx En EnL
def topS (i : Nat) : Stmt := PySem.Challenge.pw_relume_k07_conditions_solved.main.body.getD i (.Pass ⟨0, 0, 0, 0⟩)
structure Bs (K : PySem.W.Frag) (mg : Str → Option Value) (W : Vp) : Prop where
  nob : ∀ x ∈ (["ValueError", "abs", "all", "any", "bool", "enumerate", "int", "isinstance", "len", "list", "min", "range", "repr", "sum", "tuple", "zip"] : List Str), mg x = none
  gcd : mg "gcd" = some (.builtin "math.gcd")
  x_OutOfRange : ExF K mg "OutOfRange" (W.ea 3)
  x_LightError : ExF K mg "LightError" (W.ea 0)
  x_BadNet : ExF K mg "BadNet" (W.ea 1)
  c_OutOfRange : ExcC K (W.ea 3)
  e_OutOfRange_OutOfRange : PySem.W.exmOne K (.ref (W.ea 3)) (.ref (W.ea 3)) = some true
  i_OutOfRange_BadNet : PySem.W.kitOne K (.ref (W.ea 3)) (.ref (W.ea 1)) = some false
  i_OutOfRange_LightError : PySem.W.kitOne K (.ref (W.ea 3)) (.ref (W.ea 0)) = some true
  i_OutOfRange_ValueError : PySem.W.kitOne K (.ref (W.ea 3)) (.type "ValueError") = some true
  cl_Tableau : ClsI K W "Tableau" ns_Tableau
theorem Bs.bi {K : PySem.W.Frag} {mg : Str → Option Value} {W : Vp} (B : Bs K mg W) (x : Str) (h : x ∈ (["ValueError", "abs", "all", "any", "bool", "enumerate", "int", "isinstance", "len", "list", "min", "range", "repr", "sum", "tuple", "zip"] : List Str)) : mg x = none := B.nob x h
section
variable {P : Program} {w : World} {K : PySem.W.Frag} {mg : Str → Option Value} {base : Heap} {W : Vp}
abbrev s_fraction : Stmt := topS 7
theorem sc_fraction : FnScope ["top", "low", "divisor"] ["top", "low"] (defScope s_fraction) := ⟨rfl, rfl, rfl, by decide +kernel, rfl, by decide +kernel, by decide +kernel⟩
theorem ok_fraction (B : Bs K mg W) (hW : W.rc.xa = none) (d : Dn K mg "fraction" "fraction" s_fraction ["top", "low"])  : Cal P w K mg base W "fraction" 1 (fun a : (Int × Int × Unit) => f_fraction a.1 a.2.1) .frz :=
  cal d sc_fraction fun fa cdv Ar outer sh H E hr a => by
    have nd := sc_fraction.nd
    obtain ⟨top1, low2, _⟩ := a
    exact (show VB (cxOf (L2.CX P w) P w K mg base ["top", "low", "divisor"] "fraction" (defScope s_fraction) fa cdv Ar outer sh H E) W (fun _ => E) (argE 0 [en top1, en low2]) (defBody s_fraction) (f_fraction top1 low2) (rtOut .frz) from
  (vb_set (ps_set (i := 2) nd rfl (by first | exact Or.inl rfl | exact Or.inr rfl) (ve_eq (m' := (R.ok (gcdI top1 low2))) (ve_ca ca_gcd gGcd hGcd (pe_callBfun cr_gcd (by rfl) B.gcd (va_cons (ve_v (pv 0) rfl) (va_cons (ve_v (pv 1) rfl) va_nil)))) (by rfl))) fun divisor3 =>
  (vb_ifJ (eJ := (fun s4 : Int => (se (se (se e0 0 (.vl .fz (en top1))) 1 (.vl .fz (en low2))) 2 (.vl .fz (en s4))))) (vt_eq (t' := (R.ok (decide (low2 < (0 : Int))))) (vt_cmp op_lt o2_lt cLt hLt (ve_v (pv 1) rfl) ve_int (nomark _)) (by rfl))
  (vb_set (ps_set (i := 2) nd rfl (by first | exact Or.inl rfl | exact Or.inr rfl) (ve_eq (m' := (R.ok (-divisor3))) (te_neg (ve_v (pv 2) rfl)) (by rfl))) fun divisor5 =>
  (vb_nil (b := divisor5) rfl (Le.se (Le.se (Le.se Le.e0 rfl) rfl) rfl)))
  (vb_nil (b := divisor3) rfl (Le.se (Le.se (Le.se Le.e0 rfl) rfl) rfl))
  fun s4 => (vb_ret0 (ps_ret (ve_eq (m' := ((divR top1 s4).bind fun x6 => (divR low2 s4).bind fun x7 => R.ok (x6, x7))) (ve_frz (ve_tup (s := .frz) (fun (x : (Int × Int × Unit)) => ((x.1, x.2.1) : (Int × Int))) (va_cons (te_div (ve_v (pv 0) rfl) (ve_v (pv 2) rfl)) (va_cons (te_div (ve_v (pv 1) rfl) (ve_v (pv 2) rfl)) va_nil)))) (by first | with_reducible rfl | simp only [R.bind_eta, R.bind_assoc, R.okb, R.exb, R.nob, R.map_eq, q_gInt, q_gIntB, q_gLen, q_gLenT, q_gLenN, q_gAbs, q_gMax2, q_gMin2, q_gGcd, q_gSum, q_gAny, q_gAnyI, q_gMaxL, q_gLenF, q_cIsB, q_cNotB, q_gAll, q_gList, q_gListT, q_gTuple, q_gSorted, q_gSortedT, q_gRepr, q_cLt, q_cLe, q_cGt, q_cGe, q_cEq, q_cNe, q_cEqS, q_cNeS, q_cEqR, q_cNeR, q_cIsN, q_cIsS, q_cIn, q_cNi, q_cInR, q_cNiR, q_cInT, q_cNiT] | rfl)))))))

abbrev s_Tableau_aim : Stmt := inClass (topS 8) 1
theorem sc_Tableau_aim : FnScope ["self", "costs", "found", "at", "row", "cost", "item", "part"] ["self", "costs"] (defScope s_Tableau_aim) := ⟨rfl, rfl, rfl, by decide +kernel, rfl, by decide +kernel, by decide +kernel⟩
theorem ok_Tableau_aim (B : Bs K mg W) (hW : W.rc.xa = none) (d : Mth K W "Tableau" "aim" "Tableau.aim" s_Tableau_aim ["self", "costs"])  : CalI P w K mg base W "Tableau" "aim" 1 sh_Tableau (fun (_ : Unit) (z : CTableau) (b : ((List Int) × Unit)) => (f_Tableau_aim z b.1).map fun s => ((), s)) .frz sh_Tableau :=
  calI (g := (fun (_ : Unit) (z : CTableau) (b : ((List Int) × Unit)) => f_Tableau_aim z b.1)) (s1 := sh_Tableau) (s2 := sh_Tableau) d sc_Tableau_aim fun fa cdv Ar outer sh H E hr a u self1 b => by
    have nd := sc_Tableau_aim.nd
    obtain _ := a
    obtain ⟨costs2, _⟩ := b
    exact (show VB (cxOf (L2.CX P w) P w K mg base ["self", "costs", "found", "at", "row", "cost", "item", "part"] "Tableau.aim" (defScope s_Tableau_aim) fa cdv Ar outer sh H E) W (fun _ => E) (argI [] (.vl (.ow sh_Tableau (some u)) (en self1)) [en costs2]) (defBody s_Tableau_aim) (f_Tableau_aim self1 costs2) (fun s' : CTableau => .nx (se e0 0 (.vl (.ow sh_Tableau (some u)) (en s')))) from
  (vb_set (ps_set (i := 2) nd rfl (by first | exact Or.inl rfl | exact Or.inr rfl) (ve_eq (m' := ((noX (mapR (fun v3 : Int => (mulR self1.scale v3)) costs2)).bind fun x4 => (catR x4 ([(0 : Int)] : List Int)))) (ve_frz (te_cat (ve_frz (te_lc (own := [("cost", 5)]) (g := (gN 5)) lcM rfl nd (vi_list (ve_v (pv 1) rfl)) (blkOk_by (N := ["self", "costs", "found", "at", "row", "cost", "item", "part"]) (sc := defScope s_Tableau_aim) (by decide +kernel)) (fun _ _ _ _ _ => (vg_name (pg_name (i := 5) nd rfl (by first | exact Or.inl rfl | exact Or.inr rfl)))) (fun _ => rfl) (fun (v3 : Int) _ _ _ _ _ => vts_nil) (fun (v3 : Int) _ _ _ _ _ => (ve_eq (m' := (mulR self1.scale v3)) (te_mul (ve_r (b0 := false) (vr_fldD (s := .frz) (x := (self1.scale : Int)) (j := 4) B.cl_Tableau (by decide +kernel) (by decide +kernel) (pv 0) rfl rfl rfl)) (ve_v (pv 5) rfl)) (by first | with_reducible rfl | simp only [R.bind_eta, R.bind_assoc, R.okb, R.exb, R.nob, R.map_eq, q_gInt, q_gIntB, q_gLen, q_gLenT, q_gLenN, q_gAbs, q_gMax2, q_gMin2, q_gGcd, q_gSum, q_gAny, q_gAnyI, q_gMaxL, q_gLenF, q_cIsB, q_cNotB, q_gAll, q_gList, q_gListT, q_gTuple, q_gSorted, q_gSortedT, q_gRepr, q_cLt, q_cLe, q_cGt, q_cGe, q_cEq, q_cNe, q_cEqS, q_cNeS, q_cEqR, q_cNeR, q_cIsN, q_cIsS, q_cIn, q_cNi, q_cInR, q_cNiR, q_cInT, q_cNiT] | rfl))))) (ve_frz (ve_lst (s := .frz) (fun (x : (Int × Unit)) => ([x.1] : List Int)) (va_cons ve_int va_nil))))) (by first | with_reducible rfl | simp only [R.bind_eta, R.bind_assoc, R.okb, R.exb, R.nob, R.map_eq, q_gInt, q_gIntB, q_gLen, q_gLenT, q_gLenN, q_gAbs, q_gMax2, q_gMin2, q_gGcd, q_gSum, q_gAny, q_gAnyI, q_gMaxL, q_gLenF, q_cIsB, q_cNotB, q_gAll, q_gList, q_gListT, q_gTuple, q_gSorted, q_gSortedT, q_gRepr, q_cLt, q_cLe, q_cGt, q_cGe, q_cEq, q_cNe, q_cEqS, q_cNeS, q_cEqR, q_cNeR, q_cIsN, q_cIsS, q_cIn, q_cNi, q_cInR, q_cNiR, q_cInT, q_cNiT] | rfl))) fun found5 =>
  (tb_forL (f := (f_Tableau_aim_l1 self1 costs2)) (ei := (fun (lv : V) (s1 : (List Int)) => (se (se (se e0 0 (.vl (.bw (.ins "Tableau" (zipS ns_Tableau [.frz, .frz, (.lst .frz), (.lst .frz), .frz, .frz])) (some lv)) (insV "Tableau" ns_Tableau [en (self1.columns : Int), en (self1.size : Int), en (self1.rows : (List (List Int))), en (self1.basis : (List Int)), en (self1.scale : Int), en (self1.costs : (List Int))]))) 1 (.vl .fz (en costs2))) 2 (.vl .fz (en s1))))) (ρ2 := (fun s1 : (List Int) => (se (se (se e0 0 (.vl (.ow (.ins "Tableau" (zipS ns_Tableau [.frz, .frz, (.lst .frz), (.lst .frz), .frz, .frz])) (some u)) (insV "Tableau" ns_Tableau [en (self1.columns : Int), en (self1.size : Int), en (self1.rows : (List (List Int))), en (self1.basis : (List Int)), en (self1.scale : Int), en (self1.costs : (List Int))]))) 1 (.vl .fz (en costs2))) 2 (.vl .fz (en s1))))) (s0 := found5) (g := (gT 2 (gsC (gN 3) (gsC (gN 4) gsN)))) 0 (fun _ _ _ => rfl) rfl (passes_of rfl) rfl (fun lv => (vi_eqm (m' := (R.ok (enumL 0 self1.rows))) (vi_enumR (by rfl) (B.bi "enumerate" (by decide)) (vr_fldB (s := (.lst .frz)) (x := (self1.rows : (List (List Int)))) (j := 2) B.cl_Tableau (by decide +kernel) (by decide +kernel) (pv 0) rfl rfl rfl)) (by rfl))) (vg_tup rfl (vgs_cons (vg_name (pg_name (i := 3) nd rfl (by first | exact Or.inl rfl | exact Or.inr rfl))) (vgs_cons (vg_name (pg_name (i := 4) nd rfl (by first | exact Or.inl rfl | exact Or.inr rfl))) vgs_nil))) (fun lv => (Le.se (Le.se (Le.se Le.e0 rfl) rfl) rfl))
  (fun lv x1_ s1 => (vb_set (ps_set (i := 5) nd rfl (by first | exact Or.inl rfl | exact Or.inr rfl) (ve_eq (m' := ((ixR self1.basis x1_.1).bind fun x8 => (ixR costs2 x8))) (te_ixL (ve_v (pv 1) rfl) (ve_r (b0 := false) (vr_ix (vr_fldB (s := (.lst .frz)) (x := (self1.basis : (List Int))) (j := 3) B.cl_Tableau (by decide +kernel) (by decide +kernel) (pv 0) rfl rfl rfl) (ve_v (pv 3) rfl)))) (by first | with_reducible rfl | simp only [R.bind_eta, R.bind_assoc, R.okb, R.exb, R.nob, R.map_eq, q_gInt, q_gIntB, q_gLen, q_gLenT, q_gLenN, q_gAbs, q_gMax2, q_gMin2, q_gGcd, q_gSum, q_gAny, q_gAnyI, q_gMaxL, q_gLenF, q_cIsB, q_cNotB, q_gAll, q_gList, q_gListT, q_gTuple, q_gSorted, q_gSortedT, q_gRepr, q_cLt, q_cLe, q_cGt, q_cGe, q_cEq, q_cNe, q_cEqS, q_cNeS, q_cEqR, q_cNeR, q_cIsN, q_cIsS, q_cIn, q_cNi, q_cInR, q_cNiR, q_cInT, q_cNiT] | rfl))) fun cost9 =>
  (vb_set (ps_eqm (m' := (noX (mapR (fun v10 : (Int × Int) => ((mulR cost9 v10.2).bind fun x11 => R.ok (v10.1 - x11))) (s1.zip x1_.2)))) (ps_frz (ts_lc (i := 2) (own := [("item", 6), ("part", 7)]) (g := (gT 2 (gsC (gN 6) (gsC (gN 7) gsN)))) lcM rfl nd rfl rfl (sw_true rfl rfl rfl (by decide +kernel)) (vi_zip (by rfl) (B.bi "zip" (by decide)) (ve_v (pv 2) rfl) (ve_v (pv 4) rfl)) (blkOk_by (N := ["self", "costs", "found", "at", "row", "cost", "item", "part"]) (sc := defScope s_Tableau_aim) (by decide +kernel)) (fun _ _ _ _ _ => (vg_tup rfl (vgs_cons (vg_name (pg_name (i := 6) nd rfl (by first | exact Or.inl rfl | exact Or.inr rfl))) (vgs_cons (vg_name (pg_name (i := 7) nd rfl (by first | exact Or.inl rfl | exact Or.inr rfl))) vgs_nil)))) (fun _ => rfl) (fun (v10 : (Int × Int)) _ _ _ _ _ => vts_nil) (fun (v10 : (Int × Int)) _ _ _ _ _ => (ve_eq (m' := ((mulR cost9 v10.2).bind fun x11 => R.ok (v10.1 - x11))) (te_sub (ve_v (pv 6) rfl) (te_mul (ve_v (pv 5) rfl) (ve_v (pv 7) rfl))) (by first | with_reducible rfl | simp only [R.bind_eta, R.bind_assoc, R.okb, R.exb, R.nob, R.map_eq, q_gInt, q_gIntB, q_gLen, q_gLenT, q_gLenN, q_gAbs, q_gMax2, q_gMin2, q_gGcd, q_gSum, q_gAny, q_gAnyI, q_gMaxL, q_gLenF, q_cIsB, q_cNotB, q_gAll, q_gList, q_gListT, q_gTuple, q_gSorted, q_gSortedT, q_gRepr, q_cLt, q_cLe, q_cGt, q_cGe, q_cEq, q_cNe, q_cEqS, q_cNeS, q_cEqR, q_cNeR, q_cIsN, q_cIsS, q_cIn, q_cNi, q_cInR, q_cNiR, q_cInT, q_cNiT] | rfl))))) (by first | with_reducible rfl | simp only [R.bind_eta, R.bind_assoc, R.okb, R.exb, R.nob, R.map_eq, q_gInt, q_gIntB, q_gLen, q_gLenT, q_gLenN, q_gAbs, q_gMax2, q_gMin2, q_gGcd, q_gSum, q_gAny, q_gAnyI, q_gMaxL, q_gLenF, q_cIsB, q_cNotB, q_gAll, q_gList, q_gListT, q_gTuple, q_gSorted, q_gSortedT, q_gRepr, q_cLt, q_cLe, q_cGt, q_cGe, q_cEq, q_cNe, q_cEqS, q_cNeS, q_cEqR, q_cNeR, q_cIsN, q_cIsS, q_cIn, q_cNi, q_cInR, q_cNiR, q_cInT, q_cNiT] | rfl)) fun found12 =>
  (vb_nilC (b := found12) rfl (Le.se (Le.se (Le.se Le.e0 rfl) rfl) rfl)))))
  (fun s1' => (vb_fldX (s2 := .frz) (j := 5) B.cl_Tableau (by decide +kernel) (by decide +kernel) (pv 0) rfl rfl rfl (ve_eq (m' := (R.ok s1')) (ve_v (pv 2) rfl) (by rfl)) fun costs13 =>
  (vb_nil (b := (CTableau.mk self1.columns self1.size self1.rows self1.basis self1.scale costs13)) rfl (Le.se Le.e0 rfl)))) (fun _ _ => (Back.fz (Back.fz (Back.self Back.e0) rfl) rfl)))))

abbrev s_Tableau_init : Stmt := inClass (topS 8) 0
theorem sc_Tableau_init : FnScope ["self", "equations", "columns", "place", "equation", "marks", "other"] ["self", "equations", "columns"] (defScope s_Tableau_init) := ⟨rfl, rfl, rfl, by decide +kernel, rfl, by decide +kernel, by decide +kernel⟩
theorem ok_Tableau_init (B : Bs K mg W) (hW : W.rc.xa = none) (d : Ini K mg W "Tableau" "Tableau.__init__" s_Tableau_init ["self", "equations", "columns"]) (c_Tableau_aim : CalI P w K mg base W "Tableau" "aim" 1 sh_Tableau (fun (_ : Unit) (z : CTableau) (b : ((List Int) × Unit)) => (f_Tableau_aim z b.1).map fun s => ((), s)) .frz sh_Tableau) : CalK P w K mg base W "Tableau" 2 (fun b : ((List (List Int)) × Int × Unit) => f_Tableau_init b.1 b.2.1) (zipS ns_Tableau shs_Tableau) :=
  calK d sc_Tableau_init fun fa cdv Ar outer sh H E hr u b => by
    have nd := sc_Tableau_init.nd
    obtain ⟨equations1, columns2, _⟩ := b
    exact (show VB (cxOf (L2.CX P w) P w K mg base ["self", "equations", "columns", "place", "equation", "marks", "other"] "Tableau.__init__" (defScope s_Tableau_init) fa cdv Ar outer sh H E) W (fun _ => E) (argI [] (.vl (.ow (.ins "Tableau" (zipS [] [])) (some u)) (insV "Tableau" [] [])) [en equations1, en columns2]) (defBody s_Tableau_init) (f_Tableau_init equations1 columns2) (fun s' : CTableau => .nx (se e0 0 (.vl (.ow sh_Tableau (some u)) (en s')))) from
  (vb_fldN (s2 := .frz) B.cl_Tableau (by decide +kernel) (by decide +kernel) (pv 0) rfl (ve_eq (m' := (R.ok columns2)) (ve_v (pv 2) rfl) (by rfl)) fun columns3 =>
  (vb_fldN (s2 := .frz) B.cl_Tableau (by decide +kernel) (by decide +kernel) (pv 0) rfl (ve_eq (m' := (R.ok (equations1.length : Int))) (ve_ca ca_len gLen hLen (pe_callB call_len_seq (by rfl) (B.bi "len" (by decide)) (by decide +kernel) (va_cons (ve_v (pv 1) rfl) va_nil))) (by rfl)) fun size4 =>
  (vb_fldN (s2 := (.lst .frz)) B.cl_Tableau (by decide +kernel) (by decide +kernel) (pv 0) rfl (ve_eq (m' := (R.ok ([] : List (List Int)))) (ve_lst (s := .frz) (fun (x : (Unit)) => ([] : List (List Int))) va_nil) (by rfl)) fun rows5 =>
  (tb_for (f := (f_Tableau_init_l1 columns3 size4 columns2)) (e := (fun s1 : (List (List Int)) => (se (se e0 0 (.vl (.ow (.ins "Tableau" (zipS ["columns", "size", "rows"] [.frz, .frz, (.lst .frz)])) (some u)) (insV "Tableau" ["columns", "size", "rows"] [en (columns3 : Int), en (size4 : Int), en (s1 : (List (List Int)))]))) 2 (.vl .fz (en columns2))))) (s0 := rows5) (g := (gT 2 (gsC (gN 3) (gsC (gN 4) gsN)))) (fun _ _ => rfl) (passes_of rfl) rfl (vi_eqm (m' := (R.ok (enumL 0 equations1))) (vi_enum (by rfl) (B.bi "enumerate" (by decide)) (ve_v (pv 1) rfl)) (by rfl)) (vg_tup rfl (vgs_cons (vg_name (pg_name (i := 3) nd rfl (by first | exact Or.inl rfl | exact Or.inr rfl))) (vgs_cons (vg_name (pg_name (i := 4) nd rfl (by first | exact Or.inl rfl | exact Or.inr rfl))) vgs_nil))) (Le.se (Le.se Le.e0 rfl) rfl)
  (fun x1_ s1 => (vb_set (ps_eqm (m' := ((rng1 size4).bind fun x10 => R.ok (x10.map (fun v9 : Int => (if (decide (v9 = x1_.1)) = true then (1 : Int) else (0 : Int)))))) (ps_frz (ts_lc (i := 5) (own := [("other", 6)]) (g := (gN 6)) lcP rfl nd rfl rfl (sw_true rfl rfl rfl (by decide +kernel)) (vi_rng1 (by rfl) (B.bi "range" (by decide)) (va_cons (ve_r (b0 := false) (vr_fldD (s := .frz) (x := (size4 : Int)) (j := 1) B.cl_Tableau (by decide +kernel) (by decide +kernel) (pv 0) rfl rfl rfl)) va_nil)) (blkOk_by (N := ["self", "equations", "columns", "place", "equation", "marks", "other"]) (sc := defScope s_Tableau_init) (by decide +kernel)) (fun _ _ _ _ _ => (vg_name (pg_name (i := 6) nd rfl (by first | exact Or.inl rfl | exact Or.inr rfl)))) (fun _ => rfl) (fun (v9 : Int) _ _ _ _ _ => vts_nil) (fun (v9 : Int) _ _ _ _ _ => (ve_eq (m' := (R.ok (if (decide (v9 = x1_.1)) = true then (1 : Int) else (0 : Int)))) (ve_ifP (vt_eq (t' := (R.ok (decide (v9 = x1_.1)))) (vt_cmp (op_eqA hr.room.units) o2_eq cEq (hEq) (ve_v (pv 6) rfl) (ve_v (pv 3) rfl) (nomark _)) (by rfl)) (ve_eq (m' := (R.ok (1 : Int))) ve_int (by rfl)) (ve_eq (m' := (R.ok (0 : Int))) ve_int (by rfl))) (by rfl))))) (by first | with_reducible rfl | simp only [R.bind_eta, R.bind_assoc, R.okb, R.exb, R.nob, R.map_eq, q_gInt, q_gIntB, q_gLen, q_gLenT, q_gLenN, q_gAbs, q_gMax2, q_gMin2, q_gGcd, q_gSum, q_gAny, q_gAnyI, q_gMaxL, q_gLenF, q_cIsB, q_cNotB, q_gAll, q_gList, q_gListT, q_gTuple, q_gSorted, q_gSortedT, q_gRepr, q_cLt, q_cLe, q_cGt, q_cGe, q_cEq, q_cNe, q_cEqS, q_cNeS, q_cEqR, q_cNeR, q_cIsN, q_cIsS, q_cIn, q_cNi, q_cInR, q_cNiR, q_cInT, q_cNiT] | rfl)) fun marks11 =>
  (tb_appF (fun z16 : (List (List Int)) => insV "Tableau" ["columns", "size", "rows"] [en (columns3 : Int), en (size4 : Int), en (z16 : (List (List Int)))]) (a := s1) (s2 := .frz) (ps_expr (pe_bm PySem.F.plainAttrs_list PySem.F.slot_list_append PySem.F.type_list_append mt_append (vp_fld (fun z16 : (List (List Int)) => insV "Tableau" ["columns", "size", "rows"] [en (columns3 : Int), en (size4 : Int), en (z16 : (List (List Int)))]) (x := s1) (j := 2) (ds := [en (columns3 : Int), en (size4 : Int), en (s1 : (List (List Int)))]) B.cl_Tableau (by decide +kernel) (by decide +kernel) (pv 0) (fun _ => rfl) rfl rfl) (pa_cons (ve_frz (te_cat (ve_frz (te_cat (ve_frz (vn_sl (ve_v (pv 4) rfl) vo_none (vo_some (ve_v (pv 2) rfl)))) (ve_v (pv 5) rfl))) (ve_frz (ve_lst (s := .frz) (fun (x : (Int × Unit)) => ([x.1] : List Int)) (va_cons (te_ixL (ve_v (pv 4) rfl) (ve_v (pv 2) rfl)) va_nil))))) pa_nil))) (by first | with_reducible rfl | simp only [R.bind_eta, R.bind_assoc, R.okb, R.exb, R.nob, R.map_eq, q_gInt, q_gIntB, q_gLen, q_gLenT, q_gLenN, q_gAbs, q_gMax2, q_gMin2, q_gGcd, q_gSum, q_gAny, q_gAnyI, q_gMaxL, q_gLenF, q_cIsB, q_cNotB, q_gAll, q_gList, q_gListT, q_gTuple, q_gSorted, q_gSortedT, q_gRepr, q_cLt, q_cLe, q_cGt, q_cGe, q_cEq, q_cNe, q_cEqS, q_cNeS, q_cEqR, q_cNeR, q_cIsN, q_cIsS, q_cIn, q_cNi, q_cInR, q_cNiR, q_cInT, q_cNiT] | rfl) fun self_rows17 =>
  (vb_nilC (b := self_rows17) rfl (Le.se (Le.se Le.e0 rfl) rfl)))))
  fun s1' => (vb_fldN (s2 := (.lst .frz)) B.cl_Tableau (by decide +kernel) (by decide +kernel) (pv 0) rfl (ve_eq (m' := ((rng1 size4).bind fun x21 => R.ok (x21.map (fun v20 : Int => (columns2 + v20))))) (te_lc (own := [("place", 3)]) (g := (gN 3)) lcP rfl nd (vi_rng1 (by rfl) (B.bi "range" (by decide)) (va_cons (ve_r (b0 := false) (vr_fldD (s := .frz) (x := (size4 : Int)) (j := 1) B.cl_Tableau (by decide +kernel) (by decide +kernel) (pv 0) rfl rfl rfl)) va_nil)) (blkOk_by (N := ["self", "equations", "columns", "place", "equation", "marks", "other"]) (sc := defScope s_Tableau_init) (by decide +kernel)) (fun _ _ _ _ _ => (vg_name (pg_name (i := 3) nd rfl (by first | exact Or.inl rfl | exact Or.inr rfl)))) (fun _ => rfl) (fun (v20 : Int) _ _ _ _ _ => vts_nil) (fun (v20 : Int) _ _ _ _ _ => (ve_eq (m' := (R.ok (columns2 + v20))) (te_add (ve_v (pv 2) rfl) (ve_v (pv 3) rfl)) (by rfl)))) (by first | with_reducible rfl | simp only [R.bind_eta, R.bind_assoc, R.okb, R.exb, R.nob, R.map_eq, q_gInt, q_gIntB, q_gLen, q_gLenT, q_gLenN, q_gAbs, q_gMax2, q_gMin2, q_gGcd, q_gSum, q_gAny, q_gAnyI, q_gMaxL, q_gLenF, q_cIsB, q_cNotB, q_gAll, q_gList, q_gListT, q_gTuple, q_gSorted, q_gSortedT, q_gRepr, q_cLt, q_cLe, q_cGt, q_cGe, q_cEq, q_cNe, q_cEqS, q_cNeS, q_cEqR, q_cNeR, q_cIsN, q_cIsS, q_cIn, q_cNi, q_cInR, q_cNiR, q_cInT, q_cNiT] | rfl)) fun basis19 =>
  (vb_fldN (s2 := .frz) B.cl_Tableau (by decide +kernel) (by decide +kernel) (pv 0) rfl (ve_eq (m' := (R.ok (1 : Int))) ve_int (by rfl)) fun scale22 =>
  (vb_fldN (s2 := .frz) B.cl_Tableau (by decide +kernel) (by decide +kernel) (pv 0) rfl (ve_eq (m' := (R.ok ([] : List Int))) (ve_frz (ve_lst (s := .frz) (fun (x : (Unit)) => ([] : List Int)) va_nil)) (by rfl)) fun costs23 =>
  (vb_methI (z := (CTableau.mk columns3 size4 s1' basis19 scale22 costs23)) c_Tableau_aim hr (pass_fn (takes_of rfl rfl rfl rfl)) rfl (pv 0) (va_cons (ve_frz (te_cat (ve_frz (te_rep (ve_frz (ve_lst (s := .frz) (fun (x : (Int × Unit)) => ([x.1] : List Int)) (va_cons ve_int va_nil))) (ve_v (pv 2) rfl))) (ve_frz (te_rep (ve_frz (ve_lst (s := .frz) (fun (x : (Int × Unit)) => ([x.1] : List Int)) (va_cons ve_int va_nil))) (ve_r (b0 := false) (vr_fldD (s := .frz) (x := (size4 : Int)) (j := 1) B.cl_Tableau (by decide +kernel) (by decide +kernel) (pv 0) rfl rfl rfl)))))) va_nil) rfl rfl rfl (by decide +kernel) (by first | with_reducible rfl | simp only [R.bind_eta, R.bind_assoc, R.okb, R.exb, R.nob, R.map_eq, q_gInt, q_gIntB, q_gLen, q_gLenT, q_gLenN, q_gAbs, q_gMax2, q_gMin2, q_gGcd, q_gSum, q_gAny, q_gAnyI, q_gMaxL, q_gLenF, q_cIsB, q_cNotB, q_gAll, q_gList, q_gListT, q_gTuple, q_gSorted, q_gSortedT, q_gRepr, q_cLt, q_cLe, q_cGt, q_cGe, q_cEq, q_cNe, q_cEqS, q_cNeS, q_cEqR, q_cNeR, q_cIsN, q_cIsS, q_cIn, q_cNi, q_cInR, q_cNiR, q_cInT, q_cNiT] | rfl) fun self26 =>
  (vb_nil (b := self26) rfl (Le.se Le.e0 rfl)))))))))))

abbrev s_Tableau_entering : Stmt := inClass (topS 8) 2
theorem sc_Tableau_entering : FnScope ["self", "column"] ["self"] (defScope s_Tableau_entering) := ⟨rfl, rfl, rfl, by decide +kernel, rfl, by decide +kernel, by decide +kernel⟩
theorem ok_Tableau_entering (B : Bs K mg W) (hW : W.rc.xa = none) (d : Mth K W "Tableau" "entering" "Tableau.entering" s_Tableau_entering ["self"])  : CalM P w K mg base W "Tableau" "entering" 1 (fun a : (CTableau × Unit) => f_Tableau_entering a.1) .frz :=
  calM d sc_Tableau_entering fun fa cdv Ar outer sh H E hr a => by
    have nd := sc_Tableau_entering.nd
    obtain ⟨self1, _⟩ := a
    exact (show VB (cxOf (L2.CX P w) P w K mg base ["self", "column"] "Tableau.entering" (defScope s_Tableau_entering) fa cdv Ar outer sh H E) W (fun _ => E) (argE 0 [en self1]) (defBody s_Tableau_entering) (f_Tableau_entering self1) (rtOut .frz) from
  (tb_loop (f := (f_Tableau_entering_l1 self1)) (e := (fun s1 : Unit => (se e0 0 (.vl .fz (en self1))))) (s0 := ()) (g := (gN 1)) (fun _ _ => rfl) (passes_of rfl) rfl (vi_eqm (m' := (rng1 self1.columns)) (vi_rng1 (by rfl) (B.bi "range" (by decide)) (va_cons (ve_fldD (x := self1.columns) (j := 0) B.cl_Tableau (by decide +kernel) (by decide +kernel) (pv 0) rfl rfl) va_nil)) (by first | with_reducible rfl | simp only [R.bind_eta, R.bind_assoc, R.okb, R.exb, R.nob, R.map_eq, q_gInt, q_gIntB, q_gLen, q_gLenT, q_gLenN, q_gAbs, q_gMax2, q_gMin2, q_gGcd, q_gSum, q_gAny, q_gAnyI, q_gMaxL, q_gLenF, q_cIsB, q_cNotB, q_gAll, q_gList, q_gListT, q_gTuple, q_gSorted, q_gSortedT, q_gRepr, q_cLt, q_cLe, q_cGt, q_cGe, q_cEq, q_cNe, q_cEqS, q_cNeS, q_cEqR, q_cNeR, q_cIsN, q_cIsS, q_cIn, q_cNi, q_cInR, q_cNiR, q_cInT, q_cNiT] | rfl)) (vg_name (pg_name (i := 1) nd rfl (by first | exact Or.inl rfl | exact Or.inr rfl))) (Le.se Le.e0 rfl)
  (fun x1_ s1 => (vb_if (vt_eq (t' := ((ixR self1.costs x1_).bind fun x3 => R.ok (decide (x3 < (0 : Int))))) (vt_cmp op_lt o2_lt cLt hLt (te_ixL (ve_fldD (x := self1.costs) (j := 5) B.cl_Tableau (by decide +kernel) (by decide +kernel) (pv 0) rfl rfl) (ve_v (pv 1) rfl)) ve_int (nomark _)) (by first | with_reducible rfl | simp only [R.bind_eta, R.bind_assoc, R.okb, R.exb, R.nob, R.map_eq, q_gInt, q_gIntB, q_gLen, q_gLenT, q_gLenN, q_gAbs, q_gMax2, q_gMin2, q_gGcd, q_gSum, q_gAny, q_gAnyI, q_gMaxL, q_gLenF, q_cIsB, q_cNotB, q_gAll, q_gList, q_gListT, q_gTuple, q_gSorted, q_gSortedT, q_gRepr, q_cLt, q_cLe, q_cGt, q_cGe, q_cEq, q_cNe, q_cEqS, q_cNeS, q_cEqR, q_cNeR, q_cIsN, q_cIsS, q_cIn, q_cNi, q_cInR, q_cNiR, q_cInT, q_cNiT] | rfl))
  (vb_retP (x := (some x1_)) (ps_ret (ve_eq (m' := (R.ok (some x1_))) (ve_cast (β := (Option Int)) some (ve_v (pv 1) rfl)) (by rfl))))
  (vb_nilC (b := (Lc.nx ())) rfl (Le.se Le.e0 rfl))))
  fun s1' => (vb_retP (x := (none : (Option Int))) (ps_ret (ve_eq (m' := (R.ok (none : (Option Int)))) (ve_nonO (α := Int)) (by rfl))))))

abbrev s_Tableau_leaving : Stmt := inClass (topS 8) 3
theorem sc_Tableau_leaving : FnScope ["self", "column", "best", "at", "row", "mine", "other"] ["self", "column"] (defScope s_Tableau_leaving) := ⟨rfl, rfl, rfl, by decide +kernel, rfl, by decide +kernel, by decide +kernel⟩
theorem ok_Tableau_leaving (B : Bs K mg W) (hW : W.rc.xa = none) (d : Mth K W "Tableau" "leaving" "Tableau.leaving" s_Tableau_leaving ["self", "column"])  : CalM P w K mg base W "Tableau" "leaving" 1 (fun a : (CTableau × Int × Unit) => f_Tableau_leaving a.1 a.2.1) .frz :=
  calM d sc_Tableau_leaving fun fa cdv Ar outer sh H E hr a => by
    have nd := sc_Tableau_leaving.nd
    obtain ⟨self1, column2, _⟩ := a
    exact (show VB (cxOf (L2.CX P w) P w K mg base ["self", "column", "best", "at", "row", "mine", "other"] "Tableau.leaving" (defScope s_Tableau_leaving) fa cdv Ar outer sh H E) W (fun _ => E) (argE 0 [en self1, en column2]) (defBody s_Tableau_leaving) (f_Tableau_leaving self1 column2) (rtOut .frz) from
  (vb_set (ps_set (i := 2) nd rfl (by first | exact Or.inl rfl | exact Or.inr rfl) (ve_eq (m' := (R.ok (none : (Option Int)))) (ve_nonO (α := Int)) (by rfl))) fun best3 =>
  (tb_for (f := (f_Tableau_leaving_l1 self1 column2)) (e := (fun s1 : (Option Int) => (se (se (se e0 0 (.vl .fz (en self1))) 1 (.vl .fz (en column2))) 2 (.vl .fz (en s1))))) (s0 := best3) (g := (gT 2 (gsC (gN 3) (gsC (gN 4) gsN)))) (fun _ _ => rfl) (passes_of rfl) rfl (vi_eqm (m' := (R.ok (enumL 0 self1.rows))) (vi_enum (by rfl) (B.bi "enumerate" (by decide)) (ve_fldD (x := self1.rows) (j := 2) B.cl_Tableau (by decide +kernel) (by decide +kernel) (pv 0) rfl rfl)) (by rfl)) (vg_tup rfl (vgs_cons (vg_name (pg_name (i := 3) nd rfl (by first | exact Or.inl rfl | exact Or.inr rfl))) (vgs_cons (vg_name (pg_name (i := 4) nd rfl (by first | exact Or.inl rfl | exact Or.inr rfl))) vgs_nil))) (Le.se (Le.se (Le.se Le.e0 rfl) rfl) rfl)
  (fun x1_ s1 => (vb_if (vt_eq (t' := ((ixR x1_.2 column2).bind fun x6 => R.ok (decide ((0 : Int) < x6)))) (vt_cmp op_gt o2_gt cGt hGt (te_ixL (ve_v (pv 4) rfl) (ve_v (pv 1) rfl)) ve_int (nomark _)) (by first | with_reducible rfl | simp only [R.bind_eta, R.bind_assoc, R.okb, R.exb, R.nob, R.map_eq, q_gInt, q_gIntB, q_gLen, q_gLenT, q_gLenN, q_gAbs, q_gMax2, q_gMin2, q_gGcd, q_gSum, q_gAny, q_gAnyI, q_gMaxL, q_gLenF, q_cIsB, q_cNotB, q_gAll, q_gList, q_gListT, q_gTuple, q_gSorted, q_gSortedT, q_gRepr, q_cLt, q_cLe, q_cGt, q_cGe, q_cEq, q_cNe, q_cEqS, q_cNeS, q_cEqR, q_cNeR, q_cIsN, q_cIsS, q_cIn, q_cNi, q_cInR, q_cNiR, q_cInT, q_cNiT] | rfl))
  (vb_ifA (vt_eq (t' := (R.ok (s1.isNone))) (vt_cmp op_isN o2_isN cIsN hIsN (ve_v (pv 2) rfl) ve_non (nomark _)) (by rfl))
  (vb_set (ps_set (i := 2) nd rfl (by first | exact Or.inl rfl | exact Or.inr rfl) (ve_eq (m' := (R.ok (some x1_.1))) (ve_cast (β := (Option Int)) some (ve_v (pv 3) rfl)) (by rfl))) fun best7 =>
  (vb_cnt (b := best7) rfl (Le.se (Le.se (Le.se Le.e0 rfl) rfl) rfl)))
  (vb_set (ps_set (i := 5) nd rfl (by first | exact Or.inl rfl | exact Or.inr rfl) (ve_eq (m' := ((ixR x1_.2 (-(1 : Int))).bind fun x10 => ((((R.ok s1).bind unO).bind fun x8 => (ixR self1.rows x8)).bind fun x9 => (ixR x9 column2)).bind fun x11 => (mulR x10 x11))) (te_mul (te_ixL (ve_v (pv 4) rfl) (te_neg ve_int)) (te_ixL (te_ixL (ve_fldD (x := self1.rows) (j := 2) B.cl_Tableau (by decide +kernel) (by decide +kernel) (pv 0) rfl rfl) (ve_un (ve_v (pv 2) rfl))) (ve_v (pv 1) rfl))) (by first | with_reducible rfl | simp only [R.bind_eta, R.bind_assoc, R.okb, R.exb, R.nob, R.map_eq, q_gInt, q_gIntB, q_gLen, q_gLenT, q_gLenN, q_gAbs, q_gMax2, q_gMin2, q_gGcd, q_gSum, q_gAny, q_gAnyI, q_gMaxL, q_gLenF, q_cIsB, q_cNotB, q_gAll, q_gList, q_gListT, q_gTuple, q_gSorted, q_gSortedT, q_gRepr, q_cLt, q_cLe, q_cGt, q_cGe, q_cEq, q_cNe, q_cEqS, q_cNeS, q_cEqR, q_cNeR, q_cIsN, q_cIsS, q_cIn, q_cNi, q_cInR, q_cNiR, q_cInT, q_cNiT] | rfl))) fun mine12 =>
  (vb_set (ps_set (i := 6) nd rfl (by first | exact Or.inl rfl | exact Or.inr rfl) (ve_eq (m' := (((((R.ok s1).bind unO).bind fun x13 => (ixR self1.rows x13)).bind fun x14 => (ixR x14 (-(1 : Int)))).bind fun x15 => (ixR x1_.2 column2).bind fun x16 => (mulR x15 x16))) (te_mul (te_ixL (te_ixL (ve_fldD (x := self1.rows) (j := 2) B.cl_Tableau (by decide +kernel) (by decide +kernel) (pv 0) rfl rfl) (ve_un (ve_v (pv 2) rfl))) (te_neg ve_int)) (te_ixL (ve_v (pv 4) rfl) (ve_v (pv 1) rfl))) (by first | with_reducible rfl | simp only [R.bind_eta, R.bind_assoc, R.okb, R.exb, R.nob, R.map_eq, q_gInt, q_gIntB, q_gLen, q_gLenT, q_gLenN, q_gAbs, q_gMax2, q_gMin2, q_gGcd, q_gSum, q_gAny, q_gAnyI, q_gMaxL, q_gLenF, q_cIsB, q_cNotB, q_gAll, q_gList, q_gListT, q_gTuple, q_gSorted, q_gSortedT, q_gRepr, q_cLt, q_cLe, q_cGt, q_cGe, q_cEq, q_cNe, q_cEqS, q_cNeS, q_cEqR, q_cNeR, q_cIsN, q_cIsS, q_cIn, q_cNi, q_cInR, q_cNiR, q_cInT, q_cNiT] | rfl))) fun other17 =>
  (vb_if (vt_w (vw_or (vt_eq (t' := (R.ok (decide (mine12 < other17)))) (vt_cmp op_lt o2_lt cLt hLt (ve_v (pv 5) rfl) (ve_v (pv 6) rfl) (nomark _)) (by rfl)) (vw_or1 (vt_w (vw_and (vt_eq (t' := (R.ok (decide (mine12 = other17)))) (vt_cmp (op_eqA hr.room.units) o2_eq cEq (hEq) (ve_v (pv 5) rfl) (ve_v (pv 6) rfl) (nomark _)) (by rfl)) (vw_and1 (vt_eq (t' := ((ixR self1.basis x1_.1).bind fun x19 => (((R.ok s1).bind unO).bind fun x18 => (ixR self1.basis x18)).bind fun x20 => R.ok (decide (x19 < x20)))) (vt_cmp op_lt o2_lt cLt hLt (te_ixL (ve_fldD (x := self1.basis) (j := 3) B.cl_Tableau (by decide +kernel) (by decide +kernel) (pv 0) rfl rfl) (ve_v (pv 3) rfl)) (te_ixL (ve_fldD (x := self1.basis) (j := 3) B.cl_Tableau (by decide +kernel) (by decide +kernel) (pv 0) rfl rfl) (ve_un (ve_v (pv 2) rfl))) (nomark _)) (by first | with_reducible rfl | simp only [R.bind_eta, R.bind_assoc, R.okb, R.exb, R.nob, R.map_eq, q_gInt, q_gIntB, q_gLen, q_gLenT, q_gLenN, q_gAbs, q_gMax2, q_gMin2, q_gGcd, q_gSum, q_gAny, q_gAnyI, q_gMaxL, q_gLenF, q_cIsB, q_cNotB, q_gAll, q_gList, q_gListT, q_gTuple, q_gSorted, q_gSortedT, q_gRepr, q_cLt, q_cLe, q_cGt, q_cGe, q_cEq, q_cNe, q_cEqS, q_cNeS, q_cEqR, q_cNeR, q_cIsN, q_cIsS, q_cIn, q_cNi, q_cInR, q_cNiR, q_cInT, q_cNiT] | rfl))))))))
  (vb_set (ps_set (i := 2) nd rfl (by first | exact Or.inl rfl | exact Or.inr rfl) (ve_eq (m' := (R.ok (some x1_.1))) (ve_cast (β := (Option Int)) some (ve_v (pv 3) rfl)) (by rfl))) fun best21 =>
  (vb_nilC (b := best21) rfl (Le.se (Le.se (Le.se Le.e0 rfl) rfl) rfl)))
  (vb_nilC (b := s1) rfl (Le.se (Le.se (Le.se Le.e0 rfl) rfl) rfl))))))
  (vb_nilC (b := s1) rfl (Le.se (Le.se (Le.se Le.e0 rfl) rfl) rfl))))
  fun s1' => (vb_retP (x := s1') (ps_ret (ve_eq (m' := (R.ok s1')) (ve_v (pv 2) rfl) (by rfl)))))))

abbrev s_Tableau_cleared : Stmt := inClass (topS 8) 5
theorem sc_Tableau_cleared : FnScope ["self", "row", "chosen", "pivot", "column", "factor", "item", "other"] ["self", "row", "chosen", "pivot", "column"] (defScope s_Tableau_cleared) := ⟨rfl, rfl, rfl, by decide +kernel, rfl, by decide +kernel, by decide +kernel⟩
theorem ok_Tableau_cleared (B : Bs K mg W) (hW : W.rc.xa = none) (d : Mth K W "Tableau" "cleared" "Tableau.cleared" s_Tableau_cleared ["self", "row", "chosen", "pivot", "column"])  : CalM P w K mg base W "Tableau" "cleared" 1 (fun a : (CTableau × (List Int) × (List Int) × Int × Int × Unit) => f_Tableau_cleared a.1 a.2.1 a.2.2.1 a.2.2.2.1 a.2.2.2.2.1) (.lst .frz) :=
  calM d sc_Tableau_cleared fun fa cdv Ar outer sh H E hr a => by
    have nd := sc_Tableau_cleared.nd
    obtain ⟨self1, row2, chosen3, pivot4, column5, _⟩ := a
    exact (show VB (cxOf (L2.CX P w) P w K mg base ["self", "row", "chosen", "pivot", "column", "factor", "item", "other"] "Tableau.cleared" (defScope s_Tableau_cleared) fa cdv Ar outer sh H E) W (fun _ => E) (argE 0 [en self1, en row2, en chosen3, en pivot4, en column5]) (defBody s_Tableau_cleared) (f_Tableau_cleared self1 row2 chosen3 pivot4 column5) (rtOut (.lst .frz)) from
  (vb_set (ps_set (i := 5) nd rfl (by first | exact Or.inl rfl | exact Or.inr rfl) (ve_eq (m' := (ixR row2 column5)) (te_ixL (ve_v (pv 1) rfl) (ve_v (pv 4) rfl)) (by first | with_reducible rfl | simp only [R.bind_eta, R.bind_assoc, R.okb, R.exb, R.nob, R.map_eq, q_gInt, q_gIntB, q_gLen, q_gLenT, q_gLenN, q_gAbs, q_gMax2, q_gMin2, q_gGcd, q_gSum, q_gAny, q_gAnyI, q_gMaxL, q_gLenF, q_cIsB, q_cNotB, q_gAll, q_gList, q_gListT, q_gTuple, q_gSorted, q_gSortedT, q_gRepr, q_cLt, q_cLe, q_cGt, q_cGe, q_cEq, q_cNe, q_cEqS, q_cNeS, q_cEqR, q_cNeR, q_cIsN, q_cIsS, q_cIn, q_cNi, q_cInR, q_cNiR, q_cInT, q_cNiT] | rfl))) fun factor6 =>
  (vb_ret0 (ps_ret (ve_eq (m' := (noX (mapR (fun v11 : (Int × Int) => (((mulR v11.1 pivot4).bind fun x12 => (mulR factor6 v11.2).bind fun x13 => R.ok (x12 - x13)).bind fun x14 => (divR x14 self1.scale))) (row2.zip chosen3)))) (te_lc (own := [("item", 6), ("other", 7)]) (g := (gT 2 (gsC (gN 6) (gsC (gN 7) gsN)))) lcM rfl nd (vi_zip (by rfl) (B.bi "zip" (by decide)) (ve_v (pv 1) rfl) (ve_v (pv 2) rfl)) (blkOk_by (N := ["self", "row", "chosen", "pivot", "column", "factor", "item", "other"]) (sc := defScope s_Tableau_cleared) (by decide +kernel)) (fun _ _ _ _ _ => (vg_tup rfl (vgs_cons (vg_name (pg_name (i := 6) nd rfl (by first | exact Or.inl rfl | exact Or.inr rfl))) (vgs_cons (vg_name (pg_name (i := 7) nd rfl (by first | exact Or.inl rfl | exact Or.inr rfl))) vgs_nil)))) (fun _ => rfl) (fun (v11 : (Int × Int)) _ _ _ _ _ => vts_nil) (fun (v11 : (Int × Int)) _ _ _ _ _ => (ve_eq (m' := (((mulR v11.1 pivot4).bind fun x12 => (mulR factor6 v11.2).bind fun x13 => R.ok (x12 - x13)).bind fun x14 => (divR x14 self1.scale))) (te_div (te_sub (te_mul (ve_v (pv 6) rfl) (ve_v (pv 3) rfl)) (te_mul (ve_v (pv 5) rfl) (ve_v (pv 7) rfl))) (ve_fldD (x := self1.scale) (j := 4) B.cl_Tableau (by decide +kernel) (by decide +kernel) (pv 0) rfl rfl)) (by first | with_reducible rfl | simp only [R.bind_eta, R.bind_assoc, R.okb, R.exb, R.nob, R.map_eq, q_gInt, q_gIntB, q_gLen, q_gLenT, q_gLenN, q_gAbs, q_gMax2, q_gMin2, q_gGcd, q_gSum, q_gAny, q_gAnyI, q_gMaxL, q_gLenF, q_cIsB, q_cNotB, q_gAll, q_gList, q_gListT, q_gTuple, q_gSorted, q_gSortedT, q_gRepr, q_cLt, q_cLe, q_cGt, q_cGe, q_cEq, q_cNe, q_cEqS, q_cNeS, q_cEqR, q_cNeR, q_cIsN, q_cIsS, q_cIn, q_cNi, q_cInR, q_cNiR, q_cInT, q_cNiT] | rfl)))) (by first | with_reducible rfl | simp only [R.bind_eta, R.bind_assoc, R.okb, R.exb, R.nob, R.map_eq, q_gInt, q_gIntB, q_gLen, q_gLenT, q_gLenN, q_gAbs, q_gMax2, q_gMin2, q_gGcd, q_gSum, q_gAny, q_gAnyI, q_gMaxL, q_gLenF, q_cIsB, q_cNotB, q_gAll, q_gList, q_gListT, q_gTuple, q_gSorted, q_gSortedT, q_gRepr, q_cLt, q_cLe, q_cGt, q_cGe, q_cEq, q_cNe, q_cEqS, q_cNeS, q_cEqR, q_cNeR, q_cIsN, q_cIsS, q_cIn, q_cNi, q_cInR, q_cNiR, q_cInT, q_cNiT] | rfl))))))

abbrev s_Tableau_turn : Stmt := inClass (topS 8) 4
theorem sc_Tableau_turn : FnScope ["self", "at", "column", "pivot", "chosen", "fresh", "place", "row"] ["self", "at", "column"] (defScope s_Tableau_turn) := ⟨rfl, rfl, rfl, by decide +kernel, rfl, by decide +kernel, by decide +kernel⟩
theorem ok_Tableau_turn (B : Bs K mg W) (hW : W.rc.xa = none) (d : Mth K W "Tableau" "turn" "Tableau.turn" s_Tableau_turn ["self", "at", "column"]) (c_Tableau_cleared : CalM P w K mg base W "Tableau" "cleared" 1 (fun a : (CTableau × (List Int) × (List Int) × Int × Int × Unit) => f_Tableau_cleared a.1 a.2.1 a.2.2.1 a.2.2.2.1 a.2.2.2.2.1) (.lst .frz)) : CalI P w K mg base W "Tableau" "turn" 2 sh_Tableau (fun (_ : Unit) (z : CTableau) (b : (Int × Int × Unit)) => (f_Tableau_turn z b.1 b.2.1).map fun s => ((), s)) .frz sh_Tableau :=
  calI (g := (fun (_ : Unit) (z : CTableau) (b : (Int × Int × Unit)) => f_Tableau_turn z b.1 b.2.1)) (s1 := sh_Tableau) (s2 := sh_Tableau) d sc_Tableau_turn fun fa cdv Ar outer sh H E hr a u self1 b => by
    have nd := sc_Tableau_turn.nd
    obtain _ := a
    obtain ⟨at'2, column3, _⟩ := b
    exact (show VB (cxOf (L2.CX P w) P w K mg base ["self", "at", "column", "pivot", "chosen", "fresh", "place", "row"] "Tableau.turn" (defScope s_Tableau_turn) fa cdv Ar outer sh H E) W (fun _ => E) (argI [] (.vl (.ow sh_Tableau (some u)) (en self1)) [en at'2, en column3]) (defBody s_Tableau_turn) (f_Tableau_turn self1 at'2 column3) (fun s' : CTableau => .nx (se e0 0 (.vl (.ow sh_Tableau (some u)) (en s')))) from
  (vb_set (ps_set (i := 3) nd rfl (by first | exact Or.inl rfl | exact Or.inr rfl) (ve_eq (m' := ((ixR self1.rows at'2).bind fun x4 => (ixR x4 column3))) (te_ixL (ve_r (b0 := false) (vr_ix (vr_fldD (s := (.lst .frz)) (x := (self1.rows : (List (List Int)))) (j := 2) B.cl_Tableau (by decide +kernel) (by decide +kernel) (pv 0) rfl rfl rfl) (ve_v (pv 1) rfl))) (ve_v (pv 2) rfl)) (by first | with_reducible rfl | simp only [R.bind_eta, R.bind_assoc, R.okb, R.exb, R.nob, R.map_eq, q_gInt, q_gIntB, q_gLen, q_gLenT, q_gLenN, q_gAbs, q_gMax2, q_gMin2, q_gGcd, q_gSum, q_gAny, q_gAnyI, q_gMaxL, q_gLenF, q_cIsB, q_cNotB, q_gAll, q_gList, q_gListT, q_gTuple, q_gSorted, q_gSortedT, q_gRepr, q_cLt, q_cLe, q_cGt, q_cGe, q_cEq, q_cNe, q_cEqS, q_cNeS, q_cEqR, q_cNeR, q_cIsN, q_cIsS, q_cIn, q_cNi, q_cInR, q_cNiR, q_cInT, q_cNiT] | rfl))) fun pivot5 =>
  (vb_set (ps_set (i := 4) nd rfl (by first | exact Or.inl rfl | exact Or.inr rfl) (ve_eq (m' := (ixR self1.rows at'2)) (ve_r (b0 := false) (vr_ix (vr_fldD (s := (.lst .frz)) (x := (self1.rows : (List (List Int)))) (j := 2) B.cl_Tableau (by decide +kernel) (by decide +kernel) (pv 0) rfl rfl rfl) (ve_v (pv 1) rfl))) (by first | with_reducible rfl | simp only [R.bind_eta, R.bind_assoc, R.okb, R.exb, R.nob, R.map_eq, q_gInt, q_gIntB, q_gLen, q_gLenT, q_gLenN, q_gAbs, q_gMax2, q_gMin2, q_gGcd, q_gSum, q_gAny, q_gAnyI, q_gMaxL, q_gLenF, q_cIsB, q_cNotB, q_gAll, q_gList, q_gListT, q_gTuple, q_gSorted, q_gSortedT, q_gRepr, q_cLt, q_cLe, q_cGt, q_cGe, q_cEq, q_cNe, q_cEqS, q_cNeS, q_cEqR, q_cNeR, q_cIsN, q_cIsS, q_cIn, q_cNi, q_cInR, q_cNiR, q_cInT, q_cNiT] | rfl))) fun chosen6 =>
  (vb_setN (ps_set (i := 5) nd rfl (by first | exact Or.inl rfl | exact Or.inr rfl) (ve_eq (m' := (R.ok ([] : List (List Int)))) (ve_lst (s := .frz) (fun (x : (Unit)) => ([] : List (List Int))) va_nil) (by rfl))) fun fresh7 =>
  (tb_forL (f := (f_Tableau_turn_l1 self1 (at'2) column3 pivot5 chosen6)) (ei := (fun (lv : V) (s1 : (List (List Int))) => (se (se (se (se (se (se e0 0 (.vl (.bw (.ins "Tableau" (zipS ns_Tableau [.frz, .frz, (.lst .frz), (.lst .frz), .frz, .frz])) (some lv)) (insV "Tableau" ns_Tableau [en (self1.columns : Int), en (self1.size : Int), en (self1.rows : (List (List Int))), en (self1.basis : (List Int)), en (self1.scale : Int), en (self1.costs : (List Int))]))) 1 (.vl .fz (en at'2))) 2 (.vl .fz (en column3))) 3 (.vl .fz (en pivot5))) 4 (.vl .fz (en chosen6))) 5 (.vl (.ow (.lst .frz) none) (en s1))))) (ρ2 := (fun s1 : (List (List Int)) => (se (se (se (se (se (se e0 0 (.vl (.ow (.ins "Tableau" (zipS ns_Tableau [.frz, .frz, (.lst .frz), (.lst .frz), .frz, .frz])) (some u)) (insV "Tableau" ns_Tableau [en (self1.columns : Int), en (self1.size : Int), en (self1.rows : (List (List Int))), en (self1.basis : (List Int)), en (self1.scale : Int), en (self1.costs : (List Int))]))) 1 (.vl .fz (en at'2))) 2 (.vl .fz (en column3))) 3 (.vl .fz (en pivot5))) 4 (.vl .fz (en chosen6))) 5 (.vl (.ow (.lst .frz) none) (en s1))))) (s0 := fresh7) (g := (gT 2 (gsC (gN 6) (gsC (gN 7) gsN)))) 0 (fun _ _ _ => rfl) rfl (passes_of rfl) rfl (fun lv => (vi_eqm (m' := (R.ok (enumL 0 self1.rows))) (vi_enumR (by rfl) (B.bi "enumerate" (by decide)) (vr_fldB (s := (.lst .frz)) (x := (self1.rows : (List (List Int)))) (j := 2) B.cl_Tableau (by decide +kernel) (by decide +kernel) (pv 0) rfl rfl rfl)) (by rfl))) (vg_tup rfl (vgs_cons (vg_name (pg_name (i := 6) nd rfl (by first | exact Or.inl rfl | exact Or.inr rfl))) (vgs_cons (vg_name (pg_name (i := 7) nd rfl (by first | exact Or.inl rfl | exact Or.inr rfl))) vgs_nil))) (fun lv => (Le.se (Le.se (Le.se (Le.se (Le.se (Le.se Le.e0 rfl) rfl) rfl) rfl) rfl) rfl))
  (fun lv x1_ s1 => (tb_app (a := s1) (s2 := .frz) (ps_expr (pe_bm PySem.F.plainAttrs_list PySem.F.slot_list_append PySem.F.type_list_append mt_append (vp_v (pv 5)) (pa_cons (ve_if (vt_eq (t' := (R.ok (decide (x1_.1 = (at'2))))) (vt_cmp (op_eqA hr.room.units) o2_eq cEq (hEq) (ve_v (pv 6) rfl) (ve_v (pv 1) rfl) (nomark _)) (by rfl)) (ve_eq (m' := (R.ok chosen6)) (ve_v (pv 4) rfl) (by rfl)) (ve_eq (m' := (f_Tableau_cleared self1 x1_.2 chosen6 pivot5 column3)) (ve_frz (ve_gr (ve_meth vs_Tableau c_Tableau_cleared hr (pass_fn (takes_of rfl rfl rfl rfl)) (ve_v (x := self1) (pv 0) rfl) (va_cons (ve_v (pv 7) rfl) (va_cons (ve_v (pv 4) rfl) (va_cons (ve_v (pv 3) rfl) (va_cons (ve_v (pv 2) rfl) va_nil)))) (fun _ => rfl) (fun _ => rfl) (by decide +kernel)))) (by first | with_reducible rfl | simp only [R.bind_eta, R.bind_assoc, R.okb, R.exb, R.nob, R.map_eq, q_gInt, q_gIntB, q_gLen, q_gLenT, q_gLenN, q_gAbs, q_gMax2, q_gMin2, q_gGcd, q_gSum, q_gAny, q_gAnyI, q_gMaxL, q_gLenF, q_cIsB, q_cNotB, q_gAll, q_gList, q_gListT, q_gTuple, q_gSorted, q_gSortedT, q_gRepr, q_cLt, q_cLe, q_cGt, q_cGe, q_cEq, q_cNe, q_cEqS, q_cNeS, q_cEqR, q_cNeR, q_cIsN, q_cIsS, q_cIn, q_cNi, q_cInR, q_cNiR, q_cInT, q_cNiT] | rfl))) pa_nil))) (by first | with_reducible rfl | simp only [R.bind_eta, R.bind_assoc, R.okb, R.exb, R.nob, R.map_eq, q_gInt, q_gIntB, q_gLen, q_gLenT, q_gLenN, q_gAbs, q_gMax2, q_gMin2, q_gGcd, q_gSum, q_gAny, q_gAnyI, q_gMaxL, q_gLenF, q_cIsB, q_cNotB, q_gAll, q_gList, q_gListT, q_gTuple, q_gSorted, q_gSortedT, q_gRepr, q_cLt, q_cLe, q_cGt, q_cGe, q_cEq, q_cNe, q_cEqS, q_cNeS, q_cEqR, q_cNeR, q_cIsN, q_cIsS, q_cIn, q_cNi, q_cInR, q_cNiR, q_cInT, q_cNiT] | rfl) fun fresh13 =>
  (vb_nilC (b := fresh13) rfl (Le.se (Le.se (Le.se (Le.se (Le.se (Le.se Le.e0 rfl) rfl) rfl) rfl) rfl) rfl))))
  (fun s1' => (vb_fldX (s2 := .frz) (j := 5) B.cl_Tableau (by decide +kernel) (by decide +kernel) (pv 0) rfl rfl rfl (ve_eq (m' := (f_Tableau_cleared self1 self1.costs chosen6 pivot5 column3)) (ve_frz (ve_gr (ve_meth vs_Tableau c_Tableau_cleared hr (pass_fn (takes_of rfl rfl rfl rfl)) (ve_v (x := self1) (pv 0) rfl) (va_cons (ve_fldD (x := (self1.costs : (List Int))) (j := 5) B.cl_Tableau (by decide +kernel) (by decide +kernel) (pv 0) rfl rfl) (va_cons (ve_v (pv 4) rfl) (va_cons (ve_v (pv 3) rfl) (va_cons (ve_v (pv 2) rfl) va_nil)))) (fun _ => rfl) (fun _ => rfl) (by decide +kernel)))) (by first | with_reducible rfl | simp only [R.bind_eta, R.bind_assoc, R.okb, R.exb, R.nob, R.map_eq, q_gInt, q_gIntB, q_gLen, q_gLenT, q_gLenN, q_gAbs, q_gMax2, q_gMin2, q_gGcd, q_gSum, q_gAny, q_gAnyI, q_gMaxL, q_gLenF, q_cIsB, q_cNotB, q_gAll, q_gList, q_gListT, q_gTuple, q_gSorted, q_gSortedT, q_gRepr, q_cLt, q_cLe, q_cGt, q_cGe, q_cEq, q_cNe, q_cEqS, q_cNeS, q_cEqR, q_cNeR, q_cIsN, q_cIsS, q_cIn, q_cNi, q_cInR, q_cNiR, q_cInT, q_cNiT] | rfl)) fun costs15 =>
  (vb_fldM (j := 2) B.cl_Tableau (by decide +kernel) (by decide +kernel) (pv 0) rfl rfl rfl (vm_eq (m' := (R.ok s1')) (vm_v (pv 5) rfl) (by rfl)) fun rows16 =>
  (vb_fldX (s2 := .frz) (j := 4) B.cl_Tableau (by decide +kernel) (by decide +kernel) (pv 0) rfl rfl rfl (ve_eq (m' := (R.ok pivot5)) (ve_v (pv 3) rfl) (by rfl)) fun scale17 =>
  (tb_putF (fun z19 : (List Int) => insV "Tableau" ns_Tableau [en (self1.columns : Int), en (self1.size : Int), en (rows16 : (List (List Int))), en (z19 : (List Int)), en (scale17 : Int), en (costs15 : (List Int))]) (a := self1.basis) (s2 := .frz) (ps_asg (ve_v (pv 2) rfl) (pg_sub (vp_fld (fun z19 : (List Int) => insV "Tableau" ns_Tableau [en (self1.columns : Int), en (self1.size : Int), en (rows16 : (List (List Int))), en (z19 : (List Int)), en (scale17 : Int), en (costs15 : (List Int))]) (x := self1.basis) (j := 3) (ds := [en (self1.columns : Int), en (self1.size : Int), en (rows16 : (List (List Int))), en (self1.basis : (List Int)), en (scale17 : Int), en (costs15 : (List Int))]) B.cl_Tableau (by decide +kernel) (by decide +kernel) (pv 0) (fun _ => rfl) rfl rfl) (ve_v (pv 1) rfl) set_list)) (by first | with_reducible rfl | simp only [R.bind_eta, R.bind_assoc, R.okb, R.exb, R.nob, R.map_eq, q_gInt, q_gIntB, q_gLen, q_gLenT, q_gLenN, q_gAbs, q_gMax2, q_gMin2, q_gGcd, q_gSum, q_gAny, q_gAnyI, q_gMaxL, q_gLenF, q_cIsB, q_cNotB, q_gAll, q_gList, q_gListT, q_gTuple, q_gSorted, q_gSortedT, q_gRepr, q_cLt, q_cLe, q_cGt, q_cGe, q_cEq, q_cNe, q_cEqS, q_cNeS, q_cEqR, q_cNeR, q_cIsN, q_cIsS, q_cIn, q_cNi, q_cInR, q_cNiR, q_cInT, q_cNiT] | rfl) fun self_basis20 =>
  (vb_nil (b := (CTableau.mk self1.columns self1.size rows16 self_basis20 scale17 costs15)) rfl (Le.se Le.e0 rfl))))))) (fun _ _ => (Back.ow (Back.fz (Back.fz (Back.fz (Back.fz (Back.self Back.e0) rfl) rfl) rfl) rfl) rfl)))))))

abbrev s_Tableau_search : Stmt := inClass (topS 8) 6
theorem sc_Tableau_search : FnScope ["self", "column"] ["self"] (defScope s_Tableau_search) := ⟨rfl, rfl, rfl, by decide +kernel, rfl, by decide +kernel, by decide +kernel⟩
theorem ok_Tableau_search (B : Bs K mg W) (hW : W.rc.xa = none) (d : Mth K W "Tableau" "search" "Tableau.search" s_Tableau_search ["self"]) (c_Tableau_entering : CalM P w K mg base W "Tableau" "entering" 1 (fun a : (CTableau × Unit) => f_Tableau_entering a.1) .frz) (c_Tableau_leaving : CalM P w K mg base W "Tableau" "leaving" 1 (fun a : (CTableau × Int × Unit) => f_Tableau_leaving a.1 a.2.1) .frz) (c_Tableau_turn : CalI P w K mg base W "Tableau" "turn" 2 sh_Tableau (fun (_ : Unit) (z : CTableau) (b : (Int × Int × Unit)) => (f_Tableau_turn z b.1 b.2.1).map fun s => ((), s)) .frz sh_Tableau) : CalI P w K mg base W "Tableau" "search" 3 sh_Tableau (fun (_ : Unit) (z : CTableau) (b : Unit) => (f_Tableau_search z ).map fun s => ((), s)) .frz sh_Tableau :=
  calI (g := (fun (_ : Unit) (z : CTableau) (b : Unit) => f_Tableau_search z )) (s1 := sh_Tableau) (s2 := sh_Tableau) d sc_Tableau_search fun fa cdv Ar outer sh H E hr a u self1 b => by
    have nd := sc_Tableau_search.nd
    obtain _ := a
    obtain _ := b
    exact (show VB (cxOf (L2.CX P w) P w K mg base ["self", "column"] "Tableau.search" (defScope s_Tableau_search) fa cdv Ar outer sh H E) W (fun _ => E) (argI [] (.vl (.ow sh_Tableau (some u)) (en self1)) []) (defBody s_Tableau_search) (f_Tableau_search self1) (fun s' : CTableau => .nx (se e0 0 (.vl (.ow sh_Tableau (some u)) (en s')))) from
  (vb_set (ps_set (i := 1) nd rfl (by first | exact Or.inl rfl | exact Or.inr rfl) (ve_eq (m' := (f_Tableau_entering self1)) (ve_sc (ve_meth0 vs_Tableau c_Tableau_entering hr (pass_fn (takes_of rfl rfl rfl rfl)) (ve_v (x := self1) (pv 0) rfl) (fun _ => rfl) (fun _ => rfl) (by decide +kernel))) (by first | with_reducible rfl | simp only [R.bind_eta, R.bind_assoc, R.okb, R.exb, R.nob, R.map_eq, q_gInt, q_gIntB, q_gLen, q_gLenT, q_gLenN, q_gAbs, q_gMax2, q_gMin2, q_gGcd, q_gSum, q_gAny, q_gAnyI, q_gMaxL, q_gLenF, q_cIsB, q_cNotB, q_gAll, q_gList, q_gListT, q_gTuple, q_gSorted, q_gSortedT, q_gRepr, q_cLt, q_cLe, q_cGt, q_cGe, q_cEq, q_cNe, q_cEqS, q_cNeS, q_cEqR, q_cNeR, q_cIsN, q_cIsS, q_cIn, q_cNi, q_cInR, q_cNiR, q_cInT, q_cNiT] | rfl))) fun column2 =>
  (vb_while (t := (f_Tableau_search_t1 )) (f := (f_Tableau_search_l1 )) (e := (fun s1 : ((Option Int) × CTableau) => (se (se e0 0 (.vl (.ow (.ins "Tableau" (zipS ns_Tableau [.frz, .frz, (.lst .frz), (.lst .frz), .frz, .frz])) (some u)) (insV "Tableau" ns_Tableau [en (s1.2.columns : Int), en (s1.2.size : Int), en (s1.2.rows : (List (List Int))), en (s1.2.basis : (List Int)), en (s1.2.scale : Int), en (s1.2.costs : (List Int))]))) 1 (.vl .fz (en s1.1))))) (s0 := (column2, self1)) (passes_of rfl) (Le.se (Le.se Le.e0 rfl) rfl)
  (fun s1 => (vt_eq (t' := (R.ok (s1.1.isSome))) (vt_cmp op_notN o2_notN cIsS hIsS (ve_v (pv 1) rfl) ve_non (nomark _)) (by rfl)))
  (fun s1 => (vb_methI (z := s1.2) c_Tableau_turn hr (pass_fn (takes_of rfl rfl rfl rfl)) rfl (pv 0) (va_cons (ve_un (ve_sc (ve_meth vs_Tableau c_Tableau_leaving hr (pass_fn (takes_of rfl rfl rfl rfl)) (ve_v (x := s1.2) (pv 0) rfl) (va_cons (ve_un (ve_v (pv 1) rfl)) va_nil) (fun _ => rfl) (fun _ => rfl) (by decide +kernel)))) (va_cons (ve_un (ve_v (pv 1) rfl)) va_nil)) rfl rfl rfl (by decide +kernel) (by first | with_reducible rfl | simp only [R.bind_eta, R.bind_assoc, R.okb, R.exb, R.nob, R.map_eq, q_gInt, q_gIntB, q_gLen, q_gLenT, q_gLenN, q_gAbs, q_gMax2, q_gMin2, q_gGcd, q_gSum, q_gAny, q_gAnyI, q_gMaxL, q_gLenF, q_cIsB, q_cNotB, q_gAll, q_gList, q_gListT, q_gTuple, q_gSorted, q_gSortedT, q_gRepr, q_cLt, q_cLe, q_cGt, q_cGe, q_cEq, q_cNe, q_cEqS, q_cNeS, q_cEqR, q_cNeR, q_cIsN, q_cIsS, q_cIn, q_cNi, q_cInR, q_cNiR, q_cInT, q_cNiT] | rfl) fun self4 =>
  (vb_set (ps_set (i := 1) nd rfl (by first | exact Or.inl rfl | exact Or.inr rfl) (ve_eq (m' := (f_Tableau_entering self4)) (ve_sc (ve_meth0 vs_Tableau c_Tableau_entering hr (pass_fn (takes_of rfl rfl rfl rfl)) (ve_v (x := self4) (pv 0) rfl) (fun _ => rfl) (fun _ => rfl) (by decide +kernel))) (by first | with_reducible rfl | simp only [R.bind_eta, R.bind_assoc, R.okb, R.exb, R.nob, R.map_eq, q_gInt, q_gIntB, q_gLen, q_gLenT, q_gLenN, q_gAbs, q_gMax2, q_gMin2, q_gGcd, q_gSum, q_gAny, q_gAnyI, q_gMaxL, q_gLenF, q_cIsB, q_cNotB, q_gAll, q_gList, q_gListT, q_gTuple, q_gSorted, q_gSortedT, q_gRepr, q_cLt, q_cLe, q_cGt, q_cGe, q_cEq, q_cNe, q_cEqS, q_cNeS, q_cEqR, q_cNeR, q_cIsN, q_cIsS, q_cIn, q_cNi, q_cInR, q_cNiR, q_cInT, q_cNiT] | rfl))) fun column5 =>
  (vb_nilC (b := (column5, self4)) rfl (Le.se (Le.se Le.e0 rfl) rfl)))))
  fun s1' => (vb_nil (b := s1'.2) rfl (Le.se Le.e0 rfl)))))

abbrev s_Tableau_found : Stmt := inClass (topS 8) 8
theorem sc_Tableau_found : FnScope ["self", "values", "at", "column"] ["self"] (defScope s_Tableau_found) := ⟨rfl, rfl, rfl, by decide +kernel, rfl, by decide +kernel, by decide +kernel⟩
theorem ok_Tableau_found (B : Bs K mg W) (hW : W.rc.xa = none) (d : Mth K W "Tableau" "found" "Tableau.found" s_Tableau_found ["self"])  : CalM P w K mg base W "Tableau" "found" 1 (fun a : (CTableau × Unit) => f_Tableau_found a.1) (.lst .frz) :=
  calM d sc_Tableau_found fun fa cdv Ar outer sh H E hr a => by
    have nd := sc_Tableau_found.nd
    obtain ⟨self1, _⟩ := a
    exact (show VB (cxOf (L2.CX P w) P w K mg base ["self", "values", "at", "column"] "Tableau.found" (defScope s_Tableau_found) fa cdv Ar outer sh H E) W (fun _ => E) (argE 0 [en self1]) (defBody s_Tableau_found) (f_Tableau_found self1) (rtOut (.lst .frz)) from
  (vb_setN (ps_set (i := 1) nd rfl (by first | exact Or.inl rfl | exact Or.inr rfl) (ve_eq (m' := (repR ([(0 : Int)] : List Int) self1.columns)) (te_rep (ve_frz (ve_lst (s := .frz) (fun (x : (Int × Unit)) => ([x.1] : List Int)) (va_cons ve_int va_nil))) (ve_fldD (x := self1.columns) (j := 0) B.cl_Tableau (by decide +kernel) (by decide +kernel) (pv 0) rfl rfl)) (by first | with_reducible rfl | simp only [R.bind_eta, R.bind_assoc, R.okb, R.exb, R.nob, R.map_eq, q_gInt, q_gIntB, q_gLen, q_gLenT, q_gLenN, q_gAbs, q_gMax2, q_gMin2, q_gGcd, q_gSum, q_gAny, q_gAnyI, q_gMaxL, q_gLenF, q_cIsB, q_cNotB, q_gAll, q_gList, q_gListT, q_gTuple, q_gSorted, q_gSortedT, q_gRepr, q_cLt, q_cLe, q_cGt, q_cGe, q_cEq, q_cNe, q_cEqS, q_cNeS, q_cEqR, q_cNeR, q_cIsN, q_cIsS, q_cIn, q_cNi, q_cInR, q_cNiR, q_cInT, q_cNiT] | rfl))) fun values2 =>
  (tb_for (f := (f_Tableau_found_l1 self1)) (e := (fun s1 : (List Int) => (se (se e0 0 (.vl .fz (en self1))) 1 (.vl (.ow (.lst .frz) none) (en s1))))) (s0 := values2) (g := (gT 2 (gsC (gN 2) (gsC (gN 3) gsN)))) (fun _ _ => rfl) (passes_of rfl) rfl (vi_eqm (m' := (R.ok (enumL 0 self1.basis))) (vi_enum (by rfl) (B.bi "enumerate" (by decide)) (ve_fldD (x := self1.basis) (j := 3) B.cl_Tableau (by decide +kernel) (by decide +kernel) (pv 0) rfl rfl)) (by rfl)) (vg_tup rfl (vgs_cons (vg_name (pg_name (i := 2) nd rfl (by first | exact Or.inl rfl | exact Or.inr rfl))) (vgs_cons (vg_name (pg_name (i := 3) nd rfl (by first | exact Or.inl rfl | exact Or.inr rfl))) vgs_nil))) (Le.se (Le.se Le.e0 rfl) rfl)
  (fun x1_ s1 => (vb_if (vt_eq (t' := (R.ok (decide (x1_.2 < self1.columns)))) (vt_cmp op_lt o2_lt cLt hLt (ve_v (pv 3) rfl) (ve_fldD (x := self1.columns) (j := 0) B.cl_Tableau (by decide +kernel) (by decide +kernel) (pv 0) rfl rfl) (nomark _)) (by rfl))
  (tb_put (a := s1) (s2 := .frz) (ps_asg (te_ixL (te_ixL (ve_fldD (x := self1.rows) (j := 2) B.cl_Tableau (by decide +kernel) (by decide +kernel) (pv 0) rfl rfl) (ve_v (pv 2) rfl)) (te_neg ve_int)) (pg_sub (vp_v (pv 1)) (ve_v (pv 3) rfl) set_list)) (by first | with_reducible rfl | simp only [R.bind_eta, R.bind_assoc, R.okb, R.exb, R.nob, R.map_eq, q_gInt, q_gIntB, q_gLen, q_gLenT, q_gLenN, q_gAbs, q_gMax2, q_gMin2, q_gGcd, q_gSum, q_gAny, q_gAnyI, q_gMaxL, q_gLenF, q_cIsB, q_cNotB, q_gAll, q_gList, q_gListT, q_gTuple, q_gSorted, q_gSortedT, q_gRepr, q_cLt, q_cLe, q_cGt, q_cGe, q_cEq, q_cNe, q_cEqS, q_cNeS, q_cEqR, q_cNeR, q_cIsN, q_cIsS, q_cIn, q_cNi, q_cInR, q_cNiR, q_cInT, q_cNiT] | rfl) fun values5 =>
  (vb_nilC (b := values5) rfl (Le.se (Le.se Le.e0 rfl) rfl)))
  (vb_nilC (b := s1) rfl (Le.se (Le.se Le.e0 rfl) rfl))))
  fun s1' => (vb_retO (ps_ret (pv 1)) rfl rfl))))

abbrev s_equations_of : Stmt := topS 9
theorem sc_equations_of : FnScope ["conditions", "goals", "found", "place", "goal", "condition"] ["conditions", "goals"] (defScope s_equations_of) := ⟨rfl, rfl, rfl, by decide +kernel, rfl, by decide +kernel, by decide +kernel⟩
theorem ok_equations_of (B : Bs K mg W) (hW : W.rc.xa = none) (d : Dn K mg "equations_of" "equations_of" s_equations_of ["conditions", "goals"])  : Cal P w K mg base W "equations_of" 1 (fun a : ((List (List Int)) × (List Int) × Unit) => f_equations_of a.1 a.2.1) (.lst .frz) :=
  cal d sc_equations_of fun fa cdv Ar outer sh H E hr a => by
    have nd := sc_equations_of.nd
    obtain ⟨conditions1, goals2, _⟩ := a
    exact (show VB (cxOf (L2.CX P w) P w K mg base ["conditions", "goals", "found", "place", "goal", "condition"] "equations_of" (defScope s_equations_of) fa cdv Ar outer sh H E) W (fun _ => E) (argE 0 [en conditions1, en goals2]) (defBody s_equations_of) (f_equations_of conditions1 goals2) (rtOut (.lst .frz)) from
  (vb_setN (ps_set (i := 2) nd rfl (by first | exact Or.inl rfl | exact Or.inr rfl) (ve_eq (m' := (R.ok ([] : List (List Int)))) (ve_lst (s := .frz) (fun (x : (Unit)) => ([] : List (List Int))) va_nil) (by rfl))) fun found3 =>
  (tb_for (f := (f_equations_of_l1 conditions1)) (e := (fun s1 : (List (List Int)) => (se (se e0 0 (.vl .fz (en conditions1))) 2 (.vl (.ow (.lst .frz) none) (en s1))))) (s0 := found3) (g := (gT 2 (gsC (gN 3) (gsC (gN 4) gsN)))) (fun _ _ => rfl) (passes_of rfl) rfl (vi_eqm (m' := (R.ok (enumL 0 goals2))) (vi_enum (by rfl) (B.bi "enumerate" (by decide)) (ve_v (pv 1) rfl)) (by rfl)) (vg_tup rfl (vgs_cons (vg_name (pg_name (i := 3) nd rfl (by first | exact Or.inl rfl | exact Or.inr rfl))) (vgs_cons (vg_name (pg_name (i := 4) nd rfl (by first | exact Or.inl rfl | exact Or.inr rfl))) vgs_nil))) (Le.se (Le.se Le.e0 rfl) rfl)
  (fun x1_ s1 => (tb_app (a := s1) (s2 := .frz) (ps_expr (pe_bm PySem.F.plainAttrs_list PySem.F.slot_list_append PySem.F.type_list_append mt_append (vp_v (pv 2)) (pa_cons (ve_frz (te_cat (ve_frz (te_lc (own := [("condition", 5)]) (g := (gN 5)) lcM rfl nd (vi_list (ve_v (pv 0) rfl)) (blkOk_by (N := ["conditions", "goals", "found", "place", "goal", "condition"]) (sc := defScope s_equations_of) (by decide +kernel)) (fun _ _ _ _ _ => (vg_name (pg_name (i := 5) nd rfl (by first | exact Or.inl rfl | exact Or.inr rfl)))) (fun _ => rfl) (fun (v5 : (List Int)) _ _ _ _ _ => vts_nil) (fun (v5 : (List Int)) _ _ _ _ _ => (ve_eq (m' := (ixR v5 (x1_.1 + (1 : Int)))) (te_ixL (ve_v (pv 5) rfl) (te_add (ve_v (pv 3) rfl) ve_int)) (by first | with_reducible rfl | simp only [R.bind_eta, R.bind_assoc, R.okb, R.exb, R.nob, R.map_eq, q_gInt, q_gIntB, q_gLen, q_gLenT, q_gLenN, q_gAbs, q_gMax2, q_gMin2, q_gGcd, q_gSum, q_gAny, q_gAnyI, q_gMaxL, q_gLenF, q_cIsB, q_cNotB, q_gAll, q_gList, q_gListT, q_gTuple, q_gSorted, q_gSortedT, q_gRepr, q_cLt, q_cLe, q_cGt, q_cGe, q_cEq, q_cNe, q_cEqS, q_cNeS, q_cEqR, q_cNeR, q_cIsN, q_cIsS, q_cIn, q_cNi, q_cInR, q_cNiR, q_cInT, q_cNiT] | rfl))))) (ve_frz (ve_lst (s := .frz) (fun (x : (Int × Unit)) => ([x.1] : List Int)) (va_cons (ve_v (pv 4) rfl) va_nil))))) pa_nil))) (by first | with_reducible rfl | simp only [R.bind_eta, R.bind_assoc, R.okb, R.exb, R.nob, R.map_eq, q_gInt, q_gIntB, q_gLen, q_gLenT, q_gLenN, q_gAbs, q_gMax2, q_gMin2, q_gGcd, q_gSum, q_gAny, q_gAnyI, q_gMaxL, q_gLenF, q_cIsB, q_cNotB, q_gAll, q_gList, q_gListT, q_gTuple, q_gSorted, q_gSortedT, q_gRepr, q_cLt, q_cLe, q_cGt, q_cGe, q_cEq, q_cNe, q_cEqS, q_cNeS, q_cEqR, q_cNeR, q_cIsN, q_cIsS, q_cIn, q_cNi, q_cInR, q_cNiR, q_cInT, q_cNiT] | rfl) fun found7 =>
  (vb_nilC (b := found7) rfl (Le.se (Le.se Le.e0 rfl) rfl))))
  fun s1' => (vb_retO (ps_ret (pv 2)) rfl rfl))))

abbrev s_without_divisor : Stmt := topS 10
theorem sc_without_divisor : FnScope ["integers", "divisor", "item"] ["integers"] (defScope s_without_divisor) := ⟨rfl, rfl, rfl, by decide +kernel, rfl, by decide +kernel, by decide +kernel⟩
theorem ok_without_divisor (B : Bs K mg W) (hW : W.rc.xa = none) (d : Dn K mg "without_divisor" "without_divisor" s_without_divisor ["integers"])  : Cal P w K mg base W "without_divisor" 1 (fun a : ((List Int) × Unit) => f_without_divisor a.1) (.lst .frz) :=
  cal d sc_without_divisor fun fa cdv Ar outer sh H E hr a => by
    have nd := sc_without_divisor.nd
    obtain ⟨integers1, _⟩ := a
    exact (show VB (cxOf (L2.CX P w) P w K mg base ["integers", "divisor", "item"] "without_divisor" (defScope s_without_divisor) fa cdv Ar outer sh H E) W (fun _ => E) (argE 0 [en integers1]) (defBody s_without_divisor) (f_without_divisor integers1) (rtOut (.lst .frz)) from
  (vb_set (ps_set (i := 1) nd rfl (by first | exact Or.inl rfl | exact Or.inr rfl) (ve_eq (m' := (R.ok (0 : Int))) ve_int (by rfl))) fun divisor2 =>
  (tb_for (f := (f_without_divisor_l1 integers1)) (e := (fun s1 : Int => (se (se e0 0 (.vl .fz (en integers1))) 1 (.vl .fz (en s1))))) (s0 := divisor2) (g := (gN 2)) (fun _ _ => rfl) (passes_of rfl) rfl (vi_eqm (m' := (R.ok integers1)) (vi_list (ve_v (pv 0) rfl)) (by rfl)) (vg_name (pg_name (i := 2) nd rfl (by first | exact Or.inl rfl | exact Or.inr rfl))) (Le.se (Le.se Le.e0 rfl) rfl)
  (fun x1_ s1 => (vb_set (ps_set (i := 1) nd rfl (by first | exact Or.inl rfl | exact Or.inr rfl) (ve_eq (m' := (R.ok (gcdI s1 x1_))) (ve_ca ca_gcd gGcd hGcd (pe_callBfun cr_gcd (by rfl) B.gcd (va_cons (ve_v (pv 1) rfl) (va_cons (ve_v (pv 2) rfl) va_nil)))) (by rfl))) fun divisor4 =>
  (vb_nilC (b := divisor4) rfl (Le.se (Le.se Le.e0 rfl) rfl))))
  fun s1' => (vb_ret0 (ps_ret (ve_eq (m' := (noX (mapR (fun v6 : Int => (divR v6 s1')) integers1))) (te_lc (own := [("item", 2)]) (g := (gN 2)) lcM rfl nd (vi_list (ve_v (pv 0) rfl)) (blkOk_by (N := ["integers", "divisor", "item"]) (sc := defScope s_without_divisor) (by decide +kernel)) (fun _ _ _ _ _ => (vg_name (pg_name (i := 2) nd rfl (by first | exact Or.inl rfl | exact Or.inr rfl)))) (fun _ => rfl) (fun (v6 : Int) _ _ _ _ _ => vts_nil) (fun (v6 : Int) _ _ _ _ _ => (ve_eq (m' := (divR v6 s1')) (te_div (ve_v (pv 2) rfl) (ve_v (pv 1) rfl)) (by first | with_reducible rfl | simp only [R.bind_eta, R.bind_assoc, R.okb, R.exb, R.nob, R.map_eq, q_gInt, q_gIntB, q_gLen, q_gLenT, q_gLenN, q_gAbs, q_gMax2, q_gMin2, q_gGcd, q_gSum, q_gAny, q_gAnyI, q_gMaxL, q_gLenF, q_cIsB, q_cNotB, q_gAll, q_gList, q_gListT, q_gTuple, q_gSorted, q_gSortedT, q_gRepr, q_cLt, q_cLe, q_cGt, q_cGe, q_cEq, q_cNe, q_cEqS, q_cNeS, q_cEqR, q_cNeR, q_cIsN, q_cIsS, q_cIn, q_cNi, q_cInR, q_cNiR, q_cInT, q_cNiT] | rfl)))) (by first | with_reducible rfl | simp only [R.bind_eta, R.bind_assoc, R.okb, R.exb, R.nob, R.map_eq, q_gInt, q_gIntB, q_gLen, q_gLenT, q_gLenN, q_gAbs, q_gMax2, q_gMin2, q_gGcd, q_gSum, q_gAny, q_gAnyI, q_gMaxL, q_gLenF, q_cIsB, q_cNotB, q_gAll, q_gList, q_gListT, q_gTuple, q_gSorted, q_gSortedT, q_gRepr, q_cLt, q_cLe, q_cGt, q_cGe, q_cEq, q_cNe, q_cEqS, q_cNeS, q_cEqR, q_cNeR, q_cIsN, q_cIsS, q_cIn, q_cNi, q_cInR, q_cNiR, q_cInT, q_cNiT] | rfl)))))))

abbrev s_solve : Stmt := topS 11
theorem sc_solve : FnScope ["conditions", "count", "firsts", "tableau", "prices", "place", "condition", "price"] ["conditions", "count"] (defScope s_solve) := ⟨rfl, rfl, rfl, by decide +kernel, rfl, by decide +kernel, by decide +kernel⟩
theorem ok_solve (B : Bs K mg W) (hW : W.rc.xa = none) (d : Dn K mg "solve" "solve" s_solve ["conditions", "count"]) (c_fraction : Cal P w K mg base W "fraction" 1 (fun a : (Int × Int × Unit) => f_fraction a.1 a.2.1) .frz) (c_Tableau_init : CalK P w K mg base W "Tableau" 2 (fun b : ((List (List Int)) × Int × Unit) => f_Tableau_init b.1 b.2.1) (zipS ns_Tableau shs_Tableau)) (c_Tableau_search : CalI P w K mg base W "Tableau" "search" 3 sh_Tableau (fun (_ : Unit) (z : CTableau) (b : Unit) => (f_Tableau_search z ).map fun s => ((), s)) .frz sh_Tableau) (c_Tableau_found : CalM P w K mg base W "Tableau" "found" 1 (fun a : (CTableau × Unit) => f_Tableau_found a.1) (.lst .frz)) (c_equations_of : Cal P w K mg base W "equations_of" 1 (fun a : ((List (List Int)) × (List Int) × Unit) => f_equations_of a.1 a.2.1) (.lst .frz)) (c_without_divisor : Cal P w K mg base W "without_divisor" 1 (fun a : ((List Int) × Unit) => f_without_divisor a.1) (.lst .frz)) : Cal P w K mg base W "solve" 4 (fun a : ((List (List Int)) × Int × Unit) => f_solve a.1 a.2.1) (.tup (.lst .frz)) :=
  cal d sc_solve fun fa cdv Ar outer sh H E hr a => by
    have nd := sc_solve.nd
    obtain ⟨conditions1, count2, _⟩ := a
    exact (show VB (cxOf (L2.CX P w) P w K mg base ["conditions", "count", "firsts", "tableau", "prices", "place", "condition", "price"] "solve" (defScope s_solve) fa cdv Ar outer sh H E) W (fun _ => E) (argE 0 [en conditions1, en count2]) (defBody s_solve) (f_solve conditions1 count2) (rtOut (.tup (.lst .frz))) from
  (vb_ifA (vt_w (vw_orP (vt_eq (t' := (R.ok (decide (count2 < (0 : Int))))) (vt_cmp op_lt o2_lt cLt hLt (ve_v (pv 1) rfl) ve_int (nomark _)) (by rfl)) (vw_or1 (vt_eq (t' := (R.ok ((conditions1.map (fun v3 : (List Int) => (decide ((v3.length : Int) ≠ (count2 + (1 : Int)))))).any id))) (vt_val (ve_ca ca_any gAny hAny (pe_callB (cr_any rfl) (by rfl) (B.bi "any" (by decide)) (by decide +kernel) (va_cons (ve_frz (te_lc (own := [("condition", 6)]) (g := (gN 6)) lcP rfl nd (vi_list (ve_v (pv 0) rfl)) (blkOk_by (N := ["conditions", "count", "firsts", "tableau", "prices", "place", "condition", "price"]) (sc := defScope s_solve) (by decide +kernel)) (fun _ _ _ _ _ => (vg_name (pg_name (i := 6) nd rfl (by first | exact Or.inl rfl | exact Or.inr rfl)))) (fun _ => rfl) (fun (v3 : (List Int)) _ _ _ _ _ => vts_nil) (fun (v3 : (List Int)) _ _ _ _ _ => (ve_eq (m' := (R.ok (decide ((v3.length : Int) ≠ (count2 + (1 : Int)))))) (ve_cmp (op_neA hr.room.units) o2_ne cNe (hNe) (ve_ca ca_len gLen hLen (pe_callB call_len_seq (by rfl) (B.bi "len" (by decide)) (by decide +kernel) (va_cons (ve_v (pv 6) rfl) va_nil))) (te_add (ve_v (pv 1) rfl) ve_int) (nomark _)) (by rfl))))) va_nil)))) (by rfl)))))
  (vb_raise (n := 3) (ps_raise rfl (takes_of rfl rfl rfl rfl) (pmk_own PySem.F.excBase_ValueError B.x_OutOfRange.x B.x_OutOfRange.g B.x_OutOfRange.k (raises_own B.x_OutOfRange.b B.x_OutOfRange.t) (by exact rfl))))
  (vb_set (ps_set (i := 2) nd rfl (by first | exact Or.inl rfl | exact Or.inr rfl) (ve_eq (m' := ((noX (mapR (fun v4 : (List Int) => ((ixR v4 (0 : Int)).bind fun x5 => R.ok (-x5))) conditions1)).bind fun x6 => (catR x6 ([(1 : Int)] : List Int)))) (ve_frz (te_cat (ve_frz (te_lc (own := [("condition", 6)]) (g := (gN 6)) lcM rfl nd (vi_list (ve_v (pv 0) rfl)) (blkOk_by (N := ["conditions", "count", "firsts", "tableau", "prices", "place", "condition", "price"]) (sc := defScope s_solve) (by decide +kernel)) (fun _ _ _ _ _ => (vg_name (pg_name (i := 6) nd rfl (by first | exact Or.inl rfl | exact Or.inr rfl)))) (fun _ => rfl) (fun (v4 : (List Int)) _ _ _ _ _ => vts_nil) (fun (v4 : (List Int)) _ _ _ _ _ => (ve_eq (m' := ((ixR v4 (0 : Int)).bind fun x5 => R.ok (-x5))) (te_neg (te_ixL (ve_v (pv 6) rfl) ve_int)) (by first | with_reducible rfl | simp only [R.bind_eta, R.bind_assoc, R.okb, R.exb, R.nob, R.map_eq, q_gInt, q_gIntB, q_gLen, q_gLenT, q_gLenN, q_gAbs, q_gMax2, q_gMin2, q_gGcd, q_gSum, q_gAny, q_gAnyI, q_gMaxL, q_gLenF, q_cIsB, q_cNotB, q_gAll, q_gList, q_gListT, q_gTuple, q_gSorted, q_gSortedT, q_gRepr, q_cLt, q_cLe, q_cGt, q_cGe, q_cEq, q_cNe, q_cEqS, q_cNeS, q_cEqR, q_cNeR, q_cIsN, q_cIsS, q_cIn, q_cNi, q_cInR, q_cNiR, q_cInT, q_cNiT] | rfl))))) (ve_frz (ve_lst (s := .frz) (fun (x : (Int × Unit)) => ([x.1] : List Int)) (va_cons ve_int va_nil))))) (by first | with_reducible rfl | simp only [R.bind_eta, R.bind_assoc, R.okb, R.exb, R.nob, R.map_eq, q_gInt, q_gIntB, q_gLen, q_gLenT, q_gLenN, q_gAbs, q_gMax2, q_gMin2, q_gGcd, q_gSum, q_gAny, q_gAnyI, q_gMaxL, q_gLenF, q_cIsB, q_cNotB, q_gAll, q_gList, q_gListT, q_gTuple, q_gSorted, q_gSortedT, q_gRepr, q_cLt, q_cLe, q_cGt, q_cGe, q_cEq, q_cNe, q_cEqS, q_cNeS, q_cEqR, q_cNeR, q_cIsN, q_cIsS, q_cIn, q_cNi, q_cInR, q_cNiR, q_cInT, q_cNiT] | rfl))) fun firsts7 =>
  (vb_setN (ps_set (i := 3) nd rfl (by first | exact Or.inl rfl | exact Or.inr rfl) (ve_eq (m' := ((((repR ([(0 : Int)] : List Int) count2).bind fun x8 => (f_equations_of conditions1 x8)).bind fun x9 => (catR x9 ([firsts7] : List (List Int)))).bind fun x10 => (f_Tableau_init x10 (conditions1.length : Int)))) (ve_make c_Tableau_init hr (pass_fn (takes_of rfl rfl rfl rfl)) (va_cons (ve_frz (te_cat (ve_frz (ve_call c_equations_of hr (pass_fn (takes_of rfl rfl rfl rfl)) (va_cons (ve_v (pv 0) rfl) (va_cons (ve_frz (te_rep (ve_frz (ve_lst (s := .frz) (fun (x : (Int × Unit)) => ([x.1] : List Int)) (va_cons ve_int va_nil))) (ve_v (pv 1) rfl))) va_nil)))) (ve_frz (ve_lst (s := .frz) (fun (x : ((List Int) × Unit)) => ([x.1] : List (List Int))) (va_cons (ve_v (pv 2) rfl) va_nil))))) (va_cons (ve_ca ca_len gLen hLen (pe_callB call_len_seq (by rfl) (B.bi "len" (by decide)) (by decide +kernel) (va_cons (ve_v (pv 0) rfl) va_nil))) va_nil))) (by first | with_reducible rfl | simp only [R.bind_eta, R.bind_assoc, R.okb, R.exb, R.nob, R.map_eq, q_gInt, q_gIntB, q_gLen, q_gLenT, q_gLenN, q_gAbs, q_gMax2, q_gMin2, q_gGcd, q_gSum, q_gAny, q_gAnyI, q_gMaxL, q_gLenF, q_cIsB, q_cNotB, q_gAll, q_gList, q_gListT, q_gTuple, q_gSorted, q_gSortedT, q_gRepr, q_cLt, q_cLe, q_cGt, q_cGe, q_cEq, q_cNe, q_cEqS, q_cNeS, q_cEqR, q_cNeR, q_cIsN, q_cIsS, q_cIn, q_cNi, q_cInR, q_cNiR, q_cInT, q_cNiT] | rfl))) fun tableau11 =>
  (vb_methI0 (z := tableau11) c_Tableau_search hr (pass_fn (takes_of rfl rfl rfl rfl)) rfl (pv 3) rfl rfl rfl (by decide +kernel) (by first | with_reducible rfl | simp only [R.bind_eta, R.bind_assoc, R.okb, R.exb, R.nob, R.map_eq, q_gInt, q_gIntB, q_gLen, q_gLenT, q_gLenN, q_gAbs, q_gMax2, q_gMin2, q_gGcd, q_gSum, q_gAny, q_gAnyI, q_gMaxL, q_gLenF, q_cIsB, q_cNotB, q_gAll, q_gList, q_gListT, q_gTuple, q_gSorted, q_gSortedT, q_gRepr, q_cLt, q_cLe, q_cGt, q_cGe, q_cEq, q_cNe, q_cEqS, q_cNeS, q_cEqR, q_cNeR, q_cIsN, q_cIsS, q_cIn, q_cNi, q_cInR, q_cNiR, q_cInT, q_cNiT] | rfl) fun tableau12 =>
  (vb_ifA (vt_eq (t' := ((ixR tableau12.costs (-(1 : Int))).bind fun x13 => R.ok (decide (x13 = (0 : Int))))) (vt_cmp (op_eqA hr.room.units) o2_eq cEq (hEq) (te_ixL (ve_r (b0 := false) (vr_fldD (s := .frz) (x := (tableau12.costs : (List Int))) (j := 5) B.cl_Tableau (by decide +kernel) (by decide +kernel) (pv 3) rfl rfl rfl)) (te_neg ve_int)) ve_int (nomark _)) (by first | with_reducible rfl | simp only [R.bind_eta, R.bind_assoc, R.okb, R.exb, R.nob, R.map_eq, q_gInt, q_gIntB, q_gLen, q_gLenT, q_gLenN, q_gAbs, q_gMax2, q_gMin2, q_gGcd, q_gSum, q_gAny, q_gAnyI, q_gMaxL, q_gLenF, q_cIsB, q_cNotB, q_gAll, q_gList, q_gListT, q_gTuple, q_gSorted, q_gSortedT, q_gRepr, q_cLt, q_cLe, q_cGt, q_cGe, q_cEq, q_cNe, q_cEqS, q_cNeS, q_cEqR, q_cNeR, q_cIsN, q_cIsS, q_cIn, q_cNi, q_cInR, q_cNiR, q_cInT, q_cNiT] | rfl))
  (vb_ret0 (ps_ret (ve_eq (m' := (((f_Tableau_found tableau12).bind fun x21 => (f_without_divisor x21)).bind fun x22 => R.ok (SolA.no x22))) (ve_eq (m' := (((f_Tableau_found tableau12).bind fun x21 => (f_without_divisor x21)).bind fun x22 => R.ok (SolA.no x22))) (ve_castR SolA.mkno (ve_tup (s := (.lst .frz)) (fun (x : (Str × (List Int) × Unit)) => ((x.1, x.2.1) : (Str × (List Int)))) (va_cons (ve_sc ve_str) (va_cons (ve_call c_without_divisor hr (pass_fn (takes_of rfl rfl rfl rfl)) (va_cons (ve_frz (ve_gr (ve_meth0 vs_Tableau c_Tableau_found hr (pass_fn (takes_of rfl rfl rfl rfl)) (ve_v (x := tableau12) (pv 3) rfl) (fun _ => rfl) (fun _ => rfl) (by decide +kernel)))) va_nil)) va_nil))) SolA.mkno_h) (by first | exact SolA.mkno_ok _ | simp only [R.bind_eta, R.bind_assoc, R.okb, R.exb, R.nob, R.map_eq, q_gInt, q_gIntB, q_gLen, q_gLenT, q_gLenN, q_gAbs, q_gMax2, q_gMin2, q_gGcd, q_gSum, q_gAny, q_gAnyI, q_gMaxL, q_gLenF, q_cIsB, q_cNotB, q_gAll, q_gList, q_gListT, q_gTuple, q_gSorted, q_gSortedT, q_gRepr, q_cLt, q_cLe, q_cGt, q_cGe, q_cEq, q_cNe, q_cEqS, q_cNeS, q_cEqR, q_cNeR, q_cIsN, q_cIsS, q_cIn, q_cNi, q_cInR, q_cNiR, q_cInT, q_cNiT, SolA.mkno_ok])) (by first | with_reducible rfl | simp only [R.bind_eta, R.bind_assoc, R.okb, R.exb, R.nob, R.map_eq, q_gInt, q_gIntB, q_gLen, q_gLenT, q_gLenN, q_gAbs, q_gMax2, q_gMin2, q_gGcd, q_gSum, q_gAny, q_gAnyI, q_gMaxL, q_gLenF, q_cIsB, q_cNotB, q_gAll, q_gList, q_gListT, q_gTuple, q_gSorted, q_gSortedT, q_gRepr, q_cLt, q_cLe, q_cGt, q_cGe, q_cEq, q_cNe, q_cEqS, q_cNeS, q_cEqR, q_cNeR, q_cIsN, q_cIsS, q_cIn, q_cNi, q_cInR, q_cNiR, q_cInT, q_cNiT] | rfl))))
  (vb_set (ps_set (i := 4) nd rfl (by first | exact Or.inl rfl | exact Or.inr rfl) (ve_eq (m' := ((rng1 (count2 + (1 : Int))).bind fun x25 => (noX (mapR (fun v23 : Int => ((ixR tableau12.costs ((conditions1.length : Int) + v23)).bind fun x24 => R.ok (tableau12.scale - x24))) x25)))) (ve_frz (te_lc (own := [("place", 5)]) (g := (gN 5)) lcM rfl nd (vi_rng1 (by rfl) (B.bi "range" (by decide)) (va_cons (te_add (ve_v (pv 1) rfl) ve_int) va_nil)) (blkOk_by (N := ["conditions", "count", "firsts", "tableau", "prices", "place", "condition", "price"]) (sc := defScope s_solve) (by decide +kernel)) (fun _ _ _ _ _ => (vg_name (pg_name (i := 5) nd rfl (by first | exact Or.inl rfl | exact Or.inr rfl)))) (fun _ => rfl) (fun (v23 : Int) _ _ _ _ _ => vts_nil) (fun (v23 : Int) _ _ _ _ _ => (ve_eq (m' := ((ixR tableau12.costs ((conditions1.length : Int) + v23)).bind fun x24 => R.ok (tableau12.scale - x24))) (te_sub (ve_r (b0 := false) (vr_fldD (s := .frz) (x := (tableau12.scale : Int)) (j := 4) B.cl_Tableau (by decide +kernel) (by decide +kernel) (pv 3) rfl rfl rfl)) (te_ixL (ve_r (b0 := false) (vr_fldD (s := .frz) (x := (tableau12.costs : (List Int))) (j := 5) B.cl_Tableau (by decide +kernel) (by decide +kernel) (pv 3) rfl rfl rfl)) (te_add (ve_ca ca_len gLen hLen (pe_callB call_len_seq (by rfl) (B.bi "len" (by decide)) (by decide +kernel) (va_cons (ve_v (pv 0) rfl) va_nil))) (ve_v (pv 5) rfl)))) (by first | with_reducible rfl | simp only [R.bind_eta, R.bind_assoc, R.okb, R.exb, R.nob, R.map_eq, q_gInt, q_gIntB, q_gLen, q_gLenT, q_gLenN, q_gAbs, q_gMax2, q_gMin2, q_gGcd, q_gSum, q_gAny, q_gAnyI, q_gMaxL, q_gLenF, q_cIsB, q_cNotB, q_gAll, q_gList, q_gListT, q_gTuple, q_gSorted, q_gSortedT, q_gRepr, q_cLt, q_cLe, q_cGt, q_cGe, q_cEq, q_cNe, q_cEqS, q_cNeS, q_cEqR, q_cNeR, q_cIsN, q_cIsS, q_cIn, q_cNi, q_cInR, q_cNiR, q_cInT, q_cNiT] | rfl))))) (by first | with_reducible rfl | simp only [R.bind_eta, R.bind_assoc, R.okb, R.exb, R.nob, R.map_eq, q_gInt, q_gIntB, q_gLen, q_gLenT, q_gLenN, q_gAbs, q_gMax2, q_gMin2, q_gGcd, q_gSum, q_gAny, q_gAnyI, q_gMaxL, q_gLenF, q_cIsB, q_cNotB, q_gAll, q_gList, q_gListT, q_gTuple, q_gSorted, q_gSortedT, q_gRepr, q_cLt, q_cLe, q_cGt, q_cGe, q_cEq, q_cNe, q_cEqS, q_cNeS, q_cEqR, q_cNeR, q_cIsN, q_cIsS, q_cIn, q_cNi, q_cInR, q_cNiR, q_cInT, q_cNiT] | rfl))) fun prices26 =>
  (vb_ret0 (ps_ret (ve_eq (m' := ((noX (mapR (fun v38 : Int => ((ixR prices26 (-(1 : Int))).bind fun x39 => (f_fraction (-v38) x39))) (cutL prices26 none (some (-(1 : Int)))))).bind fun x40 => R.ok (SolA.yes x40))) (ve_eq (m' := ((noX (mapR (fun v38 : Int => ((ixR prices26 (-(1 : Int))).bind fun x39 => (f_fraction (-v38) x39))) (cutL prices26 none (some (-(1 : Int)))))).bind fun x40 => R.ok (SolA.yes x40))) (ve_castR SolA.mkyes (ve_tup (s := (.lst .frz)) (fun (x : (Str × (List (Int × Int)) × Unit)) => ((x.1, x.2.1) : (Str × (List (Int × Int))))) (va_cons (ve_sc ve_str) (va_cons (te_lc (own := [("price", 7)]) (g := (gN 7)) lcM rfl nd (vi_list (ve_frz (vn_sl (ve_v (pv 4) rfl) vo_none (vo_some (te_neg ve_int))))) (blkOk_by (N := ["conditions", "count", "firsts", "tableau", "prices", "place", "condition", "price"]) (sc := defScope s_solve) (by decide +kernel)) (fun _ _ _ _ _ => (vg_name (pg_name (i := 7) nd rfl (by first | exact Or.inl rfl | exact Or.inr rfl)))) (fun _ => rfl) (fun (v35 : Int) _ _ _ _ _ => vts_nil) (fun (v35 : Int) _ _ _ _ _ => (ve_eq (m' := ((ixR prices26 (-(1 : Int))).bind fun x36 => (f_fraction (-v35) x36))) (ve_call c_fraction hr pass_any (va_cons (te_neg (ve_v (pv 7) rfl)) (va_cons (te_ixL (ve_v (pv 4) rfl) (te_neg ve_int)) va_nil))) (by first | with_reducible rfl | simp only [R.bind_eta, R.bind_assoc, R.okb, R.exb, R.nob, R.map_eq, q_gInt, q_gIntB, q_gLen, q_gLenT, q_gLenN, q_gAbs, q_gMax2, q_gMin2, q_gGcd, q_gSum, q_gAny, q_gAnyI, q_gMaxL, q_gLenF, q_cIsB, q_cNotB, q_gAll, q_gList, q_gListT, q_gTuple, q_gSorted, q_gSortedT, q_gRepr, q_cLt, q_cLe, q_cGt, q_cGe, q_cEq, q_cNe, q_cEqS, q_cNeS, q_cEqR, q_cNeR, q_cIsN, q_cIsS, q_cIn, q_cNi, q_cInR, q_cNiR, q_cInT, q_cNiT] | rfl)))) va_nil))) SolA.mkyes_h) (by first | exact SolA.mkyes_ok _ | simp only [R.bind_eta, R.bind_assoc, R.okb, R.exb, R.nob, R.map_eq, q_gInt, q_gIntB, q_gLen, q_gLenT, q_gLenN, q_gAbs, q_gMax2, q_gMin2, q_gGcd, q_gSum, q_gAny, q_gAnyI, q_gMaxL, q_gLenF, q_cIsB, q_cNotB, q_gAll, q_gList, q_gListT, q_gTuple, q_gSorted, q_gSortedT, q_gRepr, q_cLt, q_cLe, q_cGt, q_cGe, q_cEq, q_cNe, q_cEqS, q_cNeS, q_cEqR, q_cNeR, q_cIsN, q_cIsS, q_cIn, q_cNi, q_cInR, q_cNiR, q_cInT, q_cNiT, SolA.mkyes_ok])) (by first | with_reducible rfl | simp only [R.bind_eta, R.bind_assoc, R.okb, R.exb, R.nob, R.map_eq, q_gInt, q_gIntB, q_gLen, q_gLenT, q_gLenN, q_gAbs, q_gMax2, q_gMin2, q_gGcd, q_gSum, q_gAny, q_gAnyI, q_gMaxL, q_gLenF, q_cIsB, q_cNotB, q_gAll, q_gList, q_gListT, q_gTuple, q_gSorted, q_gSortedT, q_gRepr, q_cLt, q_cLe, q_cGt, q_cGe, q_cEq, q_cNe, q_cEqS, q_cNeS, q_cEqR, q_cNeR, q_cIsN, q_cIsS, q_cIn, q_cNi, q_cInR, q_cNiR, q_cInT, q_cNiT] | rfl)))))))))))

abbrev s_law_cell : Stmt := topS 13
theorem sc_law_cell : FnScope ["_law_script", "_law_k"] ["_law_script", "_law_k"] (defScope s_law_cell) := ⟨rfl, rfl, rfl, by decide +kernel, rfl, by decide +kernel, by decide +kernel⟩
theorem ok_law_cell (B : Bs K mg W) (hW : W.rc.xa = none) (d : Dn K mg "_law_cell" "_law_cell" s_law_cell ["_law_script", "_law_k"])  : Cal P w K mg base W "_law_cell" 1 (fun a : ((List Int) × Int × Unit) => f_law_cell a.1 a.2.1) .frz :=
  cal d sc_law_cell fun fa cdv Ar outer sh H E hr a => by
    have nd := sc_law_cell.nd
    obtain ⟨script1, k2, _⟩ := a
    exact (show VB (cxOf (L2.CX P w) P w K mg base ["_law_script", "_law_k"] "_law_cell" (defScope s_law_cell) fa cdv Ar outer sh H E) W (fun _ => E) (argE 0 [en script1, en k2]) (defBody s_law_cell) (f_law_cell script1 k2) (rtOut .frz) from
  (vb_ifA (vt_eq (t' := (R.ok (decide (k2 < (script1.length : Int))))) (vt_cmp op_lt o2_lt cLt hLt (ve_v (pv 1) rfl) (ve_ca ca_len gLen hLen (pe_callB call_len_seq (by rfl) (B.bi "len" (by decide)) (by decide +kernel) (va_cons (ve_v (pv 0) rfl) va_nil))) (nomark _)) (by rfl))
  (vb_ret0 (ps_ret (ve_eq (m' := ((ixR script1 k2).bind fun x3 => R.ok x3)) (ve_ca ca_int gInt hInt (pe_callTy call_int1 (by rfl) (B.bi "int" (by decide)) (by decide +kernel) (va_cons (te_ixL (ve_v (pv 0) rfl) (ve_v (pv 1) rfl)) va_nil))) (by first | with_reducible rfl | simp only [R.bind_eta, R.bind_assoc, R.okb, R.exb, R.nob, R.map_eq, q_gInt, q_gIntB, q_gLen, q_gLenT, q_gLenN, q_gAbs, q_gMax2, q_gMin2, q_gGcd, q_gSum, q_gAny, q_gAnyI, q_gMaxL, q_gLenF, q_cIsB, q_cNotB, q_gAll, q_gList, q_gListT, q_gTuple, q_gSorted, q_gSortedT, q_gRepr, q_cLt, q_cLe, q_cGt, q_cGe, q_cEq, q_cNe, q_cEqS, q_cNeS, q_cEqR, q_cNeR, q_cIsN, q_cIsS, q_cIn, q_cNi, q_cInR, q_cNiR, q_cInT, q_cNiT] | rfl))))
  (vb_retP (x := (0 : Int)) (ps_ret (ve_eq (m' := (R.ok (0 : Int))) ve_int (by rfl))))))

abbrev s_law_draws : Stmt := topS 14
theorem sc_law_draws : FnScope ["_law_cell_here", "_law_limits", "_law_found", "_law_rest", "_law_state", "_law_free", "_law_limit"] ["_law_cell_here", "_law_limits"] (defScope s_law_draws) := ⟨rfl, rfl, rfl, by decide +kernel, rfl, by decide +kernel, by decide +kernel⟩
theorem ok_law_draws (B : Bs K mg W) (hW : W.rc.xa = none) (d : Dn K mg "_law_draws" "_law_draws" s_law_draws ["_law_cell_here", "_law_limits"])  : Cal P w K mg base W "_law_draws" 1 (fun a : (Int × (List Int) × Unit) => f_law_draws a.1 a.2.1) (.lst .frz) :=
  cal d sc_law_draws fun fa cdv Ar outer sh H E hr a => by
    have nd := sc_law_draws.nd
    obtain ⟨cell1, limits2, _⟩ := a
    exact (show VB (cxOf (L2.CX P w) P w K mg base ["_law_cell_here", "_law_limits", "_law_found", "_law_rest", "_law_state", "_law_free", "_law_limit"] "_law_draws" (defScope s_law_draws) fa cdv Ar outer sh H E) W (fun _ => E) (argE 0 [en cell1, en limits2]) (defBody s_law_draws) (f_law_draws cell1 limits2) (rtOut (.lst .frz)) from
  (vb_setN (ps_set (i := 2) nd rfl (by first | exact Or.inl rfl | exact Or.inr rfl) (ve_eq (m' := (R.ok ([] : List Int))) (ve_lst (s := .frz) (fun (x : (Unit)) => ([] : List Int)) va_nil) (by rfl))) fun found3 =>
  (vb_set (ps_set (i := 3) nd rfl (by first | exact Or.inl rfl | exact Or.inr rfl) (ve_eq (m' := (R.ok (absI cell1))) (ve_ca ca_abs gAbs hAbs (pe_callB call_abs (by rfl) (B.bi "abs" (by decide)) (by decide +kernel) (va_cons (ve_ca ca_int gInt hInt (pe_callTy call_int1 (by rfl) (B.bi "int" (by decide)) (by decide +kernel) (va_cons (ve_v (pv 0) rfl) va_nil))) va_nil))) (by rfl))) fun rest4 =>
  (vb_set (ps_set (i := 4) nd rfl (by first | exact Or.inl rfl | exact Or.inr rfl) (ve_eq (m' := (modR rest4 (2147483647 : Int))) (te_mod (ve_ca ca_int gInt hInt (pe_callTy call_int1 (by rfl) (B.bi "int" (by decide)) (by decide +kernel) (va_cons (ve_v (pv 3) rfl) va_nil))) ve_int) (by first | with_reducible rfl | simp only [R.bind_eta, R.bind_assoc, R.okb, R.exb, R.nob, R.map_eq, q_gInt, q_gIntB, q_gLen, q_gLenT, q_gLenN, q_gAbs, q_gMax2, q_gMin2, q_gGcd, q_gSum, q_gAny, q_gAnyI, q_gMaxL, q_gLenF, q_cIsB, q_cNotB, q_gAll, q_gList, q_gListT, q_gTuple, q_gSorted, q_gSortedT, q_gRepr, q_cLt, q_cLe, q_cGt, q_cGe, q_cEq, q_cNe, q_cEqS, q_cNeS, q_cEqR, q_cNeR, q_cIsN, q_cIsS, q_cIn, q_cNi, q_cInR, q_cNiR, q_cInT, q_cNiT] | rfl))) fun state5 =>
  (vb_set (ps_set (i := 5) nd rfl (by first | exact Or.inl rfl | exact Or.inr rfl) (ve_eq (m' := (orR (R.ok (decide (cell1 < (0 : Int)))) ((powR (10 : Int) (18 : Int)).bind fun x6 => R.ok (decide (x6 ≤ cell1))))) (ve_or (ve_eq (m' := (R.ok (decide (cell1 < (0 : Int))))) (ve_cmp op_lt o2_lt cLt hLt (ve_v (pv 0) rfl) ve_int (nomark _)) (by rfl)) (ve_one (ve_eq (m' := ((powR (10 : Int) (18 : Int)).bind fun x6 => R.ok (decide (x6 ≤ cell1)))) (ve_cmp op_ge o2_ge cGe hGe (ve_v (pv 0) rfl) (te_pow ve_int ve_int) (nomark _)) (by first | with_reducible rfl | simp only [R.bind_eta, R.bind_assoc, R.okb, R.exb, R.nob, R.map_eq, q_gInt, q_gIntB, q_gLen, q_gLenT, q_gLenN, q_gAbs, q_gMax2, q_gMin2, q_gGcd, q_gSum, q_gAny, q_gAnyI, q_gMaxL, q_gLenF, q_cIsB, q_cNotB, q_gAll, q_gList, q_gListT, q_gTuple, q_gSorted, q_gSortedT, q_gRepr, q_cLt, q_cLe, q_cGt, q_cGe, q_cEq, q_cNe, q_cEqS, q_cNeS, q_cEqR, q_cNeR, q_cIsN, q_cIsS, q_cIn, q_cNi, q_cInR, q_cNiR, q_cInT, q_cNiT] | rfl)))) (by first | with_reducible rfl | simp only [R.bind_eta, R.bind_assoc, R.okb, R.exb, R.nob, R.map_eq, q_gInt, q_gIntB, q_gLen, q_gLenT, q_gLenN, q_gAbs, q_gMax2, q_gMin2, q_gGcd, q_gSum, q_gAny, q_gAnyI, q_gMaxL, q_gLenF, q_cIsB, q_cNotB, q_gAll, q_gList, q_gListT, q_gTuple, q_gSorted, q_gSortedT, q_gRepr, q_cLt, q_cLe, q_cGt, q_cGe, q_cEq, q_cNe, q_cEqS, q_cNeS, q_cEqR, q_cNeR, q_cIsN, q_cIsS, q_cIn, q_cNi, q_cInR, q_cNiR, q_cInT, q_cNiT] | rfl))) fun free7 =>
  (tb_for (f := (f_law_draws_l1 free7)) (e := (fun s1 : ((List Int) × Int × Int) => (se (se (se (se e0 2 (.vl (.ow (.lst .frz) none) (en s1.1))) 3 (.vl .fz (en s1.2.1))) 4 (.vl .fz (en s1.2.2))) 5 (.vl .fz (en free7))))) (s0 := (found3, rest4, state5)) (g := (gN 6)) (fun _ _ => rfl) (passes_of rfl) rfl (vi_eqm (m' := (R.ok limits2)) (vi_list (ve_v (pv 1) rfl)) (by rfl)) (vg_name (pg_name (i := 6) nd rfl (by first | exact Or.inl rfl | exact Or.inr rfl))) (Le.se (Le.se (Le.se (Le.se Le.e0 rfl) rfl) rfl) rfl)
  (fun x1_ s1 => (vb_if (vt_w (vw_andP (vt_eq (t' := (R.ok free7)) (vt_val (ve_v (pv 5) rfl)) (by rfl)) (vw_and1 (vt_eq (t' := (R.ok (decide ((1 : Int) < s1.2.1)))) (vt_cmp op_gt o2_gt cGt hGt (ve_v (pv 3) rfl) ve_int (nomark _)) (by rfl)))))
  (tb_app (a := s1.1) (s2 := .frz) (ps_expr (pe_bm PySem.F.plainAttrs_list PySem.F.slot_list_append PySem.F.type_list_append mt_append (vp_v (pv 2)) (pa_cons (te_mod (ve_ca ca_int gInt hInt (pe_callTy call_int1 (by rfl) (B.bi "int" (by decide)) (by decide +kernel) (va_cons (ve_v (pv 3) rfl) va_nil))) (ve_v (pv 6) rfl)) pa_nil))) (by first | with_reducible rfl | simp only [R.bind_eta, R.bind_assoc, R.okb, R.exb, R.nob, R.map_eq, q_gInt, q_gIntB, q_gLen, q_gLenT, q_gLenN, q_gAbs, q_gMax2, q_gMin2, q_gGcd, q_gSum, q_gAny, q_gAnyI, q_gMaxL, q_gLenF, q_cIsB, q_cNotB, q_gAll, q_gList, q_gListT, q_gTuple, q_gSorted, q_gSortedT, q_gRepr, q_cLt, q_cLe, q_cGt, q_cGe, q_cEq, q_cNe, q_cEqS, q_cNeS, q_cEqR, q_cNeR, q_cIsN, q_cIsS, q_cIn, q_cNi, q_cInR, q_cNiR, q_cInT, q_cNiT] | rfl) fun found9 =>
  (vb_set (ps_set (i := 3) nd rfl (by first | exact Or.inl rfl | exact Or.inr rfl) (ve_eq (m' := (divR s1.2.1 x1_)) (te_div (ve_v (pv 3) rfl) (ve_v (pv 6) rfl)) (by first | with_reducible rfl | simp only [R.bind_eta, R.bind_assoc, R.okb, R.exb, R.nob, R.map_eq, q_gInt, q_gIntB, q_gLen, q_gLenT, q_gLenN, q_gAbs, q_gMax2, q_gMin2, q_gGcd, q_gSum, q_gAny, q_gAnyI, q_gMaxL, q_gLenF, q_cIsB, q_cNotB, q_gAll, q_gList, q_gListT, q_gTuple, q_gSorted, q_gSortedT, q_gRepr, q_cLt, q_cLe, q_cGt, q_cGe, q_cEq, q_cNe, q_cEqS, q_cNeS, q_cEqR, q_cNeR, q_cIsN, q_cIsS, q_cIn, q_cNi, q_cInR, q_cNiR, q_cInT, q_cNiT] | rfl))) fun rest10 =>
  (vb_nilC (b := (found9, rest10, s1.2.2)) rfl (Le.se (Le.se (Le.se (Le.se Le.e0 rfl) rfl) rfl) rfl))))
  (vb_set (ps_set (i := 4) nd rfl (by first | exact Or.inl rfl | exact Or.inr rfl) (ve_eq (m' := ((((mulR s1.2.2 (48271 : Int)).bind fun x12 => R.ok (x12 + (11 : Int))).bind fun x13 => R.ok x13).bind fun x14 => (modR x14 (2147483647 : Int)))) (te_mod (ve_ca ca_int gInt hInt (pe_callTy call_int1 (by rfl) (B.bi "int" (by decide)) (by decide +kernel) (va_cons (te_add (te_mul (ve_v (pv 4) rfl) ve_int) ve_int) va_nil))) ve_int) (by first | with_reducible rfl | simp only [R.bind_eta, R.bind_assoc, R.okb, R.exb, R.nob, R.map_eq, q_gInt, q_gIntB, q_gLen, q_gLenT, q_gLenN, q_gAbs, q_gMax2, q_gMin2, q_gGcd, q_gSum, q_gAny, q_gAnyI, q_gMaxL, q_gLenF, q_cIsB, q_cNotB, q_gAll, q_gList, q_gListT, q_gTuple, q_gSorted, q_gSortedT, q_gRepr, q_cLt, q_cLe, q_cGt, q_cGe, q_cEq, q_cNe, q_cEqS, q_cNeS, q_cEqR, q_cNeR, q_cIsN, q_cIsS, q_cIn, q_cNi, q_cInR, q_cNiR, q_cInT, q_cNiT] | rfl))) fun state15 =>
  (vb_set (ps_set (i := 4) nd rfl (by first | exact Or.inl rfl | exact Or.inr rfl) (ve_eq (m' := ((((mulR state15 (69621 : Int)).bind fun x16 => R.ok (x16 + (7 : Int))).bind fun x17 => R.ok x17).bind fun x18 => (modR x18 (2147483647 : Int)))) (te_mod (ve_ca ca_int gInt hInt (pe_callTy call_int1 (by rfl) (B.bi "int" (by decide)) (by decide +kernel) (va_cons (te_add (te_mul (ve_v (pv 4) rfl) ve_int) ve_int) va_nil))) ve_int) (by first | with_reducible rfl | simp only [R.bind_eta, R.bind_assoc, R.okb, R.exb, R.nob, R.map_eq, q_gInt, q_gIntB, q_gLen, q_gLenT, q_gLenN, q_gAbs, q_gMax2, q_gMin2, q_gGcd, q_gSum, q_gAny, q_gAnyI, q_gMaxL, q_gLenF, q_cIsB, q_cNotB, q_gAll, q_gList, q_gListT, q_gTuple, q_gSorted, q_gSortedT, q_gRepr, q_cLt, q_cLe, q_cGt, q_cGe, q_cEq, q_cNe, q_cEqS, q_cNeS, q_cEqR, q_cNeR, q_cIsN, q_cIsS, q_cIn, q_cNi, q_cInR, q_cNiR, q_cInT, q_cNiT] | rfl))) fun state19 =>
  (tb_app (a := s1.1) (s2 := .frz) (ps_expr (pe_bm PySem.F.plainAttrs_list PySem.F.slot_list_append PySem.F.type_list_append mt_append (vp_v (pv 2)) (pa_cons (te_mod (ve_ca ca_int gInt hInt (pe_callTy call_int1 (by rfl) (B.bi "int" (by decide)) (by decide +kernel) (va_cons (te_div (ve_v (pv 4) rfl) ve_int) va_nil))) (ve_v (pv 6) rfl)) pa_nil))) (by first | with_reducible rfl | simp only [R.bind_eta, R.bind_assoc, R.okb, R.exb, R.nob, R.map_eq, q_gInt, q_gIntB, q_gLen, q_gLenT, q_gLenN, q_gAbs, q_gMax2, q_gMin2, q_gGcd, q_gSum, q_gAny, q_gAnyI, q_gMaxL, q_gLenF, q_cIsB, q_cNotB, q_gAll, q_gList, q_gListT, q_gTuple, q_gSorted, q_gSortedT, q_gRepr, q_cLt, q_cLe, q_cGt, q_cGe, q_cEq, q_cNe, q_cEqS, q_cNeS, q_cEqR, q_cNeR, q_cIsN, q_cIsS, q_cIn, q_cNi, q_cInR, q_cNiR, q_cInT, q_cNiT] | rfl) fun found22 =>
  (vb_nilC (b := (found22, s1.2.1, state19)) rfl (Le.se (Le.se (Le.se (Le.se Le.e0 rfl) rfl) rfl) rfl)))))))
  fun s1' => (vb_retO (ps_ret (pv 2)) rfl rfl)))))))

abbrev s_law_gcd : Stmt := topS 15
theorem sc_law_gcd : FnScope ["_law_a", "_law_b", "_law_k", "_law_rest"] ["_law_a", "_law_b"] (defScope s_law_gcd) := ⟨rfl, rfl, rfl, by decide +kernel, rfl, by decide +kernel, by decide +kernel⟩
theorem ok_law_gcd (B : Bs K mg W) (hW : W.rc.xa = none) (d : Dn K mg "_law_gcd" "_law_gcd" s_law_gcd ["_law_a", "_law_b"])  : Cal P w K mg base W "_law_gcd" 1 (fun a : (Int × Int × Unit) => f_law_gcd a.1 a.2.1) .frz :=
  cal d sc_law_gcd fun fa cdv Ar outer sh H E hr a => by
    have nd := sc_law_gcd.nd
    obtain ⟨a'1, b2, _⟩ := a
    exact (show VB (cxOf (L2.CX P w) P w K mg base ["_law_a", "_law_b", "_law_k", "_law_rest"] "_law_gcd" (defScope s_law_gcd) fa cdv Ar outer sh H E) W (fun _ => E) (argE 0 [en a'1, en b2]) (defBody s_law_gcd) (f_law_gcd a'1 b2) (rtOut .frz) from
  (vb_set (ps_set (i := 0) nd rfl (by first | exact Or.inl rfl | exact Or.inr rfl) (ve_eq (m' := (R.ok (absI a'1))) (ve_ca ca_abs gAbs hAbs (pe_callB call_abs (by rfl) (B.bi "abs" (by decide)) (by decide +kernel) (va_cons (ve_v (pv 0) rfl) va_nil))) (by rfl))) fun a'3 =>
  (vb_set (ps_set (i := 1) nd rfl (by first | exact Or.inl rfl | exact Or.inr rfl) (ve_eq (m' := (R.ok (absI b2))) (ve_ca ca_abs gAbs hAbs (pe_callB call_abs (by rfl) (B.bi "abs" (by decide)) (by decide +kernel) (va_cons (ve_v (pv 1) rfl) va_nil))) (by rfl))) fun b4 =>
  (tb_loop (f := (f_law_gcd_l1 )) (e := (fun s1 : (Int × Int) => (se (se e0 0 (.vl .fz (en s1.1))) 1 (.vl .fz (en s1.2))))) (s0 := (a'3, b4)) (g := (gN 2)) (fun _ _ => rfl) (passes_of rfl) rfl (vi_eqm (m' := (rng1 (((bitsI a'3) + (bitsI b4)) + (4 : Int)))) (vi_rng1 (by rfl) (B.bi "range" (by decide)) (va_cons (te_add (te_add (te_bits (ve_v (pv 0) rfl)) (te_bits (ve_v (pv 1) rfl))) ve_int) va_nil)) (by first | with_reducible rfl | simp only [R.bind_eta, R.bind_assoc, R.okb, R.exb, R.nob, R.map_eq, q_gInt, q_gIntB, q_gLen, q_gLenT, q_gLenN, q_gAbs, q_gMax2, q_gMin2, q_gGcd, q_gSum, q_gAny, q_gAnyI, q_gMaxL, q_gLenF, q_cIsB, q_cNotB, q_gAll, q_gList, q_gListT, q_gTuple, q_gSorted, q_gSortedT, q_gRepr, q_cLt, q_cLe, q_cGt, q_cGe, q_cEq, q_cNe, q_cEqS, q_cNeS, q_cEqR, q_cNeR, q_cIsN, q_cIsS, q_cIn, q_cNi, q_cInR, q_cNiR, q_cInT, q_cNiT] | rfl)) (vg_name (pg_name (i := 2) nd rfl (by first | exact Or.inl rfl | exact Or.inr rfl))) (Le.se (Le.se Le.e0 rfl) rfl)
  (fun x1_ s1 => (vb_ifA (vt_eq (t' := (R.ok (decide (s1.2 = (0 : Int))))) (vt_cmp (op_eqA hr.room.units) o2_eq cEq (hEq) (ve_v (pv 1) rfl) ve_int (nomark _)) (by rfl))
  (vb_retP (x := s1.1) (ps_ret (ve_eq (m' := (R.ok s1.1)) (ve_v (pv 0) rfl) (by rfl))))
  (vb_set (ps_set (i := 3) nd rfl (by first | exact Or.inl rfl | exact Or.inr rfl) (ve_eq (m' := (modR s1.1 s1.2)) (te_mod (ve_ca ca_int gInt hInt (pe_callTy call_int1 (by rfl) (B.bi "int" (by decide)) (by decide +kernel) (va_cons (ve_v (pv 0) rfl) va_nil))) (ve_v (pv 1) rfl)) (by first | with_reducible rfl | simp only [R.bind_eta, R.bind_assoc, R.okb, R.exb, R.nob, R.map_eq, q_gInt, q_gIntB, q_gLen, q_gLenT, q_gLenN, q_gAbs, q_gMax2, q_gMin2, q_gGcd, q_gSum, q_gAny, q_gAnyI, q_gMaxL, q_gLenF, q_cIsB, q_cNotB, q_gAll, q_gList, q_gListT, q_gTuple, q_gSorted, q_gSortedT, q_gRepr, q_cLt, q_cLe, q_cGt, q_cGe, q_cEq, q_cNe, q_cEqS, q_cNeS, q_cEqR, q_cNeR, q_cIsN, q_cIsS, q_cIn, q_cNi, q_cInR, q_cNiR, q_cInT, q_cNiT] | rfl))) fun rest5 =>
  (vb_set (ps_set (i := 0) nd rfl (by first | exact Or.inl rfl | exact Or.inr rfl) (ve_eq (m' := (R.ok s1.2)) (ve_v (pv 1) rfl) (by rfl))) fun a'6 =>
  (vb_set (ps_set (i := 1) nd rfl (by first | exact Or.inl rfl | exact Or.inr rfl) (ve_eq (m' := (R.ok rest5)) (ve_v (pv 3) rfl) (by rfl))) fun b7 =>
  (vb_nilC (b := (Lc.nx (a'6, b7))) rfl (Le.se (Le.se Le.e0 rfl) rfl)))))))
  fun s1' => (vb_retP (x := s1'.1) (ps_ret (ve_eq (m' := (R.ok s1'.1)) (ve_v (pv 0) rfl) (by rfl))))))))

abbrev s_law_fraction : Stmt := topS 16
theorem sc_law_fraction : FnScope ["_law_top", "_law_low", "_law_common"] ["_law_top", "_law_low"] (defScope s_law_fraction) := ⟨rfl, rfl, rfl, by decide +kernel, rfl, by decide +kernel, by decide +kernel⟩
theorem ok_law_fraction (B : Bs K mg W) (hW : W.rc.xa = none) (d : Dn K mg "_law_fraction" "_law_fraction" s_law_fraction ["_law_top", "_law_low"]) (c_law_gcd : Cal P w K mg base W "_law_gcd" 1 (fun a : (Int × Int × Unit) => f_law_gcd a.1 a.2.1) .frz) : Cal P w K mg base W "_law_fraction" 2 (fun a : (Int × Int × Unit) => f_law_fraction a.1 a.2.1) .frz :=
  cal d sc_law_fraction fun fa cdv Ar outer sh H E hr a => by
    have nd := sc_law_fraction.nd
    obtain ⟨top1, low2, _⟩ := a
    exact (show VB (cxOf (L2.CX P w) P w K mg base ["_law_top", "_law_low", "_law_common"] "_law_fraction" (defScope s_law_fraction) fa cdv Ar outer sh H E) W (fun _ => E) (argE 0 [en top1, en low2]) (defBody s_law_fraction) (f_law_fraction top1 low2) (rtOut .frz) from
  (vb_set (ps_set (i := 2) nd rfl (by first | exact Or.inl rfl | exact Or.inr rfl) (ve_eq (m' := (f_law_gcd top1 low2)) (ve_call c_law_gcd hr (pass_fn (takes_of rfl rfl rfl rfl)) (va_cons (ve_v (pv 0) rfl) (va_cons (ve_v (pv 1) rfl) va_nil))) (by first | with_reducible rfl | simp only [R.bind_eta, R.bind_assoc, R.okb, R.exb, R.nob, R.map_eq, q_gInt, q_gIntB, q_gLen, q_gLenT, q_gLenN, q_gAbs, q_gMax2, q_gMin2, q_gGcd, q_gSum, q_gAny, q_gAnyI, q_gMaxL, q_gLenF, q_cIsB, q_cNotB, q_gAll, q_gList, q_gListT, q_gTuple, q_gSorted, q_gSortedT, q_gRepr, q_cLt, q_cLe, q_cGt, q_cGe, q_cEq, q_cNe, q_cEqS, q_cNeS, q_cEqR, q_cNeR, q_cIsN, q_cIsS, q_cIn, q_cNi, q_cInR, q_cNiR, q_cInT, q_cNiT] | rfl))) fun common3 =>
  (vb_ifJ (eJ := (fun s4 : Int => (se (se (se e0 0 (.vl .fz (en top1))) 1 (.vl .fz (en low2))) 2 (.vl .fz (en s4))))) (vt_eq (t' := (R.ok (decide (low2 < (0 : Int))))) (vt_cmp op_lt o2_lt cLt hLt (ve_v (pv 1) rfl) ve_int (nomark _)) (by rfl))
  (vb_set (ps_set (i := 2) nd rfl (by first | exact Or.inl rfl | exact Or.inr rfl) (ve_eq (m' := (R.ok (-common3))) (te_neg (ve_v (pv 2) rfl)) (by rfl))) fun common5 =>
  (vb_nil (b := common5) rfl (Le.se (Le.se (Le.se Le.e0 rfl) rfl) rfl)))
  (vb_nil (b := common3) rfl (Le.se (Le.se (Le.se Le.e0 rfl) rfl) rfl))
  fun s4 => (vb_ret0 (ps_ret (ve_eq (m' := ((divR top1 s4).bind fun x6 => (divR low2 s4).bind fun x7 => R.ok (x6, x7))) (ve_frz (ve_tup (s := .frz) (fun (x : (Int × Int × Unit)) => ((x.1, x.2.1) : (Int × Int))) (va_cons (te_div (ve_v (pv 0) rfl) (ve_v (pv 2) rfl)) (va_cons (te_div (ve_v (pv 1) rfl) (ve_v (pv 2) rfl)) va_nil)))) (by first | with_reducible rfl | simp only [R.bind_eta, R.bind_assoc, R.okb, R.exb, R.nob, R.map_eq, q_gInt, q_gIntB, q_gLen, q_gLenT, q_gLenN, q_gAbs, q_gMax2, q_gMin2, q_gGcd, q_gSum, q_gAny, q_gAnyI, q_gMaxL, q_gLenF, q_cIsB, q_cNotB, q_gAll, q_gList, q_gListT, q_gTuple, q_gSorted, q_gSortedT, q_gRepr, q_cLt, q_cLe, q_cGt, q_cGe, q_cEq, q_cNe, q_cEqS, q_cNeS, q_cEqR, q_cNeR, q_cIsN, q_cIsS, q_cIn, q_cNi, q_cInR, q_cNiR, q_cInT, q_cNiT] | rfl)))))))

abbrev s_law_plus : Stmt := topS 17
theorem sc_law_plus : FnScope ["_law_first", "_law_second"] ["_law_first", "_law_second"] (defScope s_law_plus) := ⟨rfl, rfl, rfl, by decide +kernel, rfl, by decide +kernel, by decide +kernel⟩
theorem ok_law_plus (B : Bs K mg W) (hW : W.rc.xa = none) (d : Dn K mg "_law_plus" "_law_plus" s_law_plus ["_law_first", "_law_second"]) (c_law_fraction : Cal P w K mg base W "_law_fraction" 2 (fun a : (Int × Int × Unit) => f_law_fraction a.1 a.2.1) .frz) : Cal P w K mg base W "_law_plus" 3 (fun a : ((Int × Int) × (Int × Int) × Unit) => f_law_plus a.1 a.2.1) .frz :=
  cal d sc_law_plus fun fa cdv Ar outer sh H E hr a => by
    have nd := sc_law_plus.nd
    obtain ⟨first1, second2, _⟩ := a
    exact (show VB (cxOf (L2.CX P w) P w K mg base ["_law_first", "_law_second"] "_law_plus" (defScope s_law_plus) fa cdv Ar outer sh H E) W (fun _ => E) (argE 0 [en first1, en second2]) (defBody s_law_plus) (f_law_plus first1 second2) (rtOut .frz) from
  (vb_ret0 (ps_ret (ve_eq (m' := (((mulR first1.1 second2.2).bind fun x3 => (mulR second2.1 first1.2).bind fun x4 => R.ok (x3 + x4)).bind fun x5 => (mulR first1.2 second2.2).bind fun x6 => (f_law_fraction x5 x6))) (ve_call c_law_fraction hr (pass_fn (takes_of rfl rfl rfl rfl)) (va_cons (te_add (te_mul (te_prj (fun x : (Int × Int) => x.1) (ve_v (pv 0) rfl) ve_int) (te_prj (fun x : (Int × Int) => x.2) (ve_v (pv 1) rfl) ve_int)) (te_mul (te_prj (fun x : (Int × Int) => x.1) (ve_v (pv 1) rfl) ve_int) (te_prj (fun x : (Int × Int) => x.2) (ve_v (pv 0) rfl) ve_int))) (va_cons (te_mul (te_prj (fun x : (Int × Int) => x.2) (ve_v (pv 0) rfl) ve_int) (te_prj (fun x : (Int × Int) => x.2) (ve_v (pv 1) rfl) ve_int)) va_nil))) (by first | with_reducible rfl | simp only [R.bind_eta, R.bind_assoc, R.okb, R.exb, R.nob, R.map_eq, q_gInt, q_gIntB, q_gLen, q_gLenT, q_gLenN, q_gAbs, q_gMax2, q_gMin2, q_gGcd, q_gSum, q_gAny, q_gAnyI, q_gMaxL, q_gLenF, q_cIsB, q_cNotB, q_gAll, q_gList, q_gListT, q_gTuple, q_gSorted, q_gSortedT, q_gRepr, q_cLt, q_cLe, q_cGt, q_cGe, q_cEq, q_cNe, q_cEqS, q_cNeS, q_cEqR, q_cNeR, q_cIsN, q_cIsS, q_cIn, q_cNi, q_cInR, q_cNiR, q_cInT, q_cNiT] | rfl)))))

abbrev s_law_shorter : Stmt := topS 18
theorem sc_law_shorter : FnScope ["_law_row", "_law_common", "_law_item"] ["_law_row"] (defScope s_law_shorter) := ⟨rfl, rfl, rfl, by decide +kernel, rfl, by decide +kernel, by decide +kernel⟩
theorem ok_law_shorter (B : Bs K mg W) (hW : W.rc.xa = none) (d : Dn K mg "_law_shorter" "_law_shorter" s_law_shorter ["_law_row"]) (c_law_gcd : Cal P w K mg base W "_law_gcd" 1 (fun a : (Int × Int × Unit) => f_law_gcd a.1 a.2.1) .frz) : Cal P w K mg base W "_law_shorter" 2 (fun a : ((List Int) × Unit) => f_law_shorter a.1) .frz :=
  cal d sc_law_shorter fun fa cdv Ar outer sh H E hr a => by
    have nd := sc_law_shorter.nd
    obtain ⟨row1, _⟩ := a
    exact (show VB (cxOf (L2.CX P w) P w K mg base ["_law_row", "_law_common", "_law_item"] "_law_shorter" (defScope s_law_shorter) fa cdv Ar outer sh H E) W (fun _ => E) (argE 0 [en row1]) (defBody s_law_shorter) (f_law_shorter row1) (rtOut .frz) from
  (vb_set (ps_set (i := 1) nd rfl (by first | exact Or.inl rfl | exact Or.inr rfl) (ve_eq (m' := (R.ok (0 : Int))) ve_int (by rfl))) fun common2 =>
  (tb_for (f := (f_law_shorter_l1 row1)) (e := (fun s1 : Int => (se (se e0 0 (.vl .fz (en row1))) 1 (.vl .fz (en s1))))) (s0 := common2) (g := (gN 2)) (fun _ _ => rfl) (passes_of rfl) rfl (vi_eqm (m' := (R.ok row1)) (vi_list (ve_v (pv 0) rfl)) (by rfl)) (vg_name (pg_name (i := 2) nd rfl (by first | exact Or.inl rfl | exact Or.inr rfl))) (Le.se (Le.se Le.e0 rfl) rfl)
  (fun x1_ s1 => (vb_set (ps_set (i := 1) nd rfl (by first | exact Or.inl rfl | exact Or.inr rfl) (ve_eq (m' := (f_law_gcd s1 x1_)) (ve_call c_law_gcd hr (pass_fn (takes_of rfl rfl rfl rfl)) (va_cons (ve_v (pv 1) rfl) (va_cons (ve_v (pv 2) rfl) va_nil))) (by first | with_reducible rfl | simp only [R.bind_eta, R.bind_assoc, R.okb, R.exb, R.nob, R.map_eq, q_gInt, q_gIntB, q_gLen, q_gLenT, q_gLenN, q_gAbs, q_gMax2, q_gMin2, q_gGcd, q_gSum, q_gAny, q_gAnyI, q_gMaxL, q_gLenF, q_cIsB, q_cNotB, q_gAll, q_gList, q_gListT, q_gTuple, q_gSorted, q_gSortedT, q_gRepr, q_cLt, q_cLe, q_cGt, q_cGe, q_cEq, q_cNe, q_cEqS, q_cNeS, q_cEqR, q_cNeR, q_cIsN, q_cIsS, q_cIn, q_cNi, q_cInR, q_cNiR, q_cInT, q_cNiT] | rfl))) fun common4 =>
  (vb_nilC (b := common4) rfl (Le.se (Le.se Le.e0 rfl) rfl))))
  fun s1' => (vb_ifA (vt_eq (t' := (R.ok (decide (s1' < (2 : Int))))) (vt_cmp op_lt o2_lt cLt hLt (ve_v (pv 1) rfl) ve_int (nomark _)) (by rfl))
  (vb_retP (x := row1) (ps_ret (ve_eq (m' := (R.ok row1)) (ve_frz (vn_ca cn_list gList hList (pe_callTy call_list_of (by rfl) (B.bi "list" (by decide)) (by decide +kernel) (va_cons (ve_v (pv 0) rfl) va_nil)))) (by rfl))))
  (vb_ret0 (ps_ret (ve_eq (m' := (noX (mapR (fun v5 : Int => (divR v5 s1')) row1))) (ve_frz (te_lc (own := [("_law_item", 2)]) (g := (gN 2)) lcM rfl nd (vi_list (ve_v (pv 0) rfl)) (blkOk_by (N := ["_law_row", "_law_common", "_law_item"]) (sc := defScope s_law_shorter) (by decide +kernel)) (fun _ _ _ _ _ => (vg_name (pg_name (i := 2) nd rfl (by first | exact Or.inl rfl | exact Or.inr rfl)))) (fun _ => rfl) (fun (v5 : Int) _ _ _ _ _ => vts_nil) (fun (v5 : Int) _ _ _ _ _ => (ve_eq (m' := (divR v5 s1')) (te_div (ve_v (pv 2) rfl) (ve_v (pv 1) rfl)) (by first | with_reducible rfl | simp only [R.bind_eta, R.bind_assoc, R.okb, R.exb, R.nob, R.map_eq, q_gInt, q_gIntB, q_gLen, q_gLenT, q_gLenN, q_gAbs, q_gMax2, q_gMin2, q_gGcd, q_gSum, q_gAny, q_gAnyI, q_gMaxL, q_gLenF, q_cIsB, q_cNotB, q_gAll, q_gList, q_gListT, q_gTuple, q_gSorted, q_gSortedT, q_gRepr, q_cLt, q_cLe, q_cGt, q_cGe, q_cEq, q_cNe, q_cEqS, q_cNeS, q_cEqR, q_cNeR, q_cIsN, q_cIsS, q_cIn, q_cNi, q_cInR, q_cNiR, q_cInT, q_cNiT] | rfl))))) (by first | with_reducible rfl | simp only [R.bind_eta, R.bind_assoc, R.okb, R.exb, R.nob, R.map_eq, q_gInt, q_gIntB, q_gLen, q_gLenT, q_gLenN, q_gAbs, q_gMax2, q_gMin2, q_gGcd, q_gSum, q_gAny, q_gAnyI, q_gMaxL, q_gLenF, q_cIsB, q_cNotB, q_gAll, q_gList, q_gListT, q_gTuple, q_gSorted, q_gSortedT, q_gRepr, q_cLt, q_cLe, q_cGt, q_cGe, q_cEq, q_cNe, q_cEqS, q_cNeS, q_cEqR, q_cNeR, q_cIsN, q_cIsS, q_cIn, q_cNi, q_cInR, q_cNiR, q_cInT, q_cNiT] | rfl))))))))

abbrev s_law_without : Stmt := topS 19
theorem sc_law_without : FnScope ["_law_rows_here", "_law_place", "_law_row", "_law_found", "_law_up", "_law_down", "_law_size", "_law_sign", "_law_other", "_law_fresh", "_law_item", "_law_k"] ["_law_rows_here", "_law_place"] (defScope s_law_without) := ⟨rfl, rfl, rfl, by decide +kernel, rfl, by decide +kernel, by decide +kernel⟩
theorem ok_law_without (B : Bs K mg W) (hW : W.rc.xa = none) (d : Dn K mg "_law_without" "_law_without" s_law_without ["_law_rows_here", "_law_place"]) (c_law_shorter : Cal P w K mg base W "_law_shorter" 2 (fun a : ((List Int) × Unit) => f_law_shorter a.1) .frz) : Cal P w K mg base W "_law_without" 3 (fun a : ((List (List Int)) × Int × Unit) => f_law_without a.1 a.2.1) .frz :=
  cal d sc_law_without fun fa cdv Ar outer sh H E hr a => by
    have nd := sc_law_without.nd
    obtain ⟨rows1, place2, _⟩ := a
    exact (show VB (cxOf (L2.CX P w) P w K mg base ["_law_rows_here", "_law_place", "_law_row", "_law_found", "_law_up", "_law_down", "_law_size", "_law_sign", "_law_other", "_law_fresh", "_law_item", "_law_k"] "_law_without" (defScope s_law_without) fa cdv Ar outer sh H E) W (fun _ => E) (argE 0 [en rows1, en place2]) (defBody s_law_without) (f_law_without rows1 place2) (rtOut .frz) from
  (tb_loop (f := (f_law_without_l1 rows1 place2)) (e := (fun s1 : Unit => (se (se e0 0 (.vl .fz (en rows1))) 1 (.vl .fz (en place2))))) (s0 := ()) (g := (gN 2)) (fun _ _ => rfl) (passes_of rfl) rfl (vi_eqm (m' := (R.ok rows1)) (vi_list (ve_v (pv 0) rfl)) (by rfl)) (vg_name (pg_name (i := 2) nd rfl (by first | exact Or.inl rfl | exact Or.inr rfl))) (Le.se (Le.se Le.e0 rfl) rfl)
  (fun x1_ s1 => (vb_if (vt_w (vw_and (vt_eq (t' := ((ixR x1_ place2).bind fun x5 => R.ok (decide (x5 ≠ (0 : Int))))) (vt_cmp (op_neA hr.room.units) o2_ne cNe (hNe) (te_ixL (ve_v (pv 2) rfl) (ve_v (pv 1) rfl)) ve_int (nomark _)) (by first | with_reducible rfl | simp only [R.bind_eta, R.bind_assoc, R.okb, R.exb, R.nob, R.map_eq, q_gInt, q_gIntB, q_gLen, q_gLenT, q_gLenN, q_gAbs, q_gMax2, q_gMin2, q_gGcd, q_gSum, q_gAny, q_gAnyI, q_gMaxL, q_gLenF, q_cIsB, q_cNotB, q_gAll, q_gList, q_gListT, q_gTuple, q_gSorted, q_gSortedT, q_gRepr, q_cLt, q_cLe, q_cGt, q_cGe, q_cEq, q_cNe, q_cEqS, q_cNeS, q_cEqR, q_cNeR, q_cIsN, q_cIsS, q_cIn, q_cNi, q_cInR, q_cNiR, q_cInT, q_cNiT] | rfl)) (vw_and1 (vt_eq (t' := (R.ok (memD (x1_.map (fun v6 : Int => (-v6))) rows1))) (vt_cmp (op_inD hr.u65) o2_inL cIn (hIn) (ve_frz (te_lc (own := [("_law_item", 10)]) (g := (gN 10)) lcP rfl nd (vi_list (ve_v (pv 2) rfl)) (blkOk_by (N := ["_law_rows_here", "_law_place", "_law_row", "_law_found", "_law_up", "_law_down", "_law_size", "_law_sign", "_law_other", "_law_fresh", "_law_item", "_law_k"]) (sc := defScope s_law_without) (by decide +kernel)) (fun _ _ _ _ _ => (vg_name (pg_name (i := 10) nd rfl (by first | exact Or.inl rfl | exact Or.inr rfl)))) (fun _ => rfl) (fun (v6 : Int) _ _ _ _ _ => vts_nil) (fun (v6 : Int) _ _ _ _ _ => (ve_eq (m' := (R.ok (-v6))) (te_neg (ve_v (pv 10) rfl)) (by rfl))))) (ve_v (pv 0) rfl) (by rfl)) (by rfl)))))
  (vb_set (ps_set (i := 6) nd rfl (by first | exact Or.inl rfl | exact Or.inr rfl) (ve_eq (m' := ((ixR x1_ place2).bind fun x7 => R.ok (absI x7))) (ve_ca ca_abs gAbs hAbs (pe_callB call_abs (by rfl) (B.bi "abs" (by decide)) (by decide +kernel) (va_cons (te_ixL (ve_v (pv 2) rfl) (ve_v (pv 1) rfl)) va_nil))) (by first | with_reducible rfl | simp only [R.bind_eta, R.bind_assoc, R.okb, R.exb, R.nob, R.map_eq, q_gInt, q_gIntB, q_gLen, q_gLenT, q_gLenN, q_gAbs, q_gMax2, q_gMin2, q_gGcd, q_gSum, q_gAny, q_gAnyI, q_gMaxL, q_gLenF, q_cIsB, q_cNotB, q_gAll, q_gList, q_gListT, q_gTuple, q_gSorted, q_gSortedT, q_gRepr, q_cLt, q_cLe, q_cGt, q_cGe, q_cEq, q_cNe, q_cEqS, q_cNeS, q_cEqR, q_cNeR, q_cIsN, q_cIsS, q_cIn, q_cNi, q_cInR, q_cNiR, q_cInT, q_cNiT] | rfl))) fun size8 =>
  (vb_set (ps_set (i := 7) nd rfl (by first | exact Or.inl rfl | exact Or.inr rfl) (ve_eq (m' := ((ixR x1_ place2).bind fun x9 => (divR x9 size8))) (te_div (te_ixL (ve_v (pv 2) rfl) (ve_v (pv 1) rfl)) (ve_v (pv 6) rfl)) (by first | with_reducible rfl | simp only [R.bind_eta, R.bind_assoc, R.okb, R.exb, R.nob, R.map_eq, q_gInt, q_gIntB, q_gLen, q_gLenT, q_gLenN, q_gAbs, q_gMax2, q_gMin2, q_gGcd, q_gSum, q_gAny, q_gAnyI, q_gMaxL, q_gLenF, q_cIsB, q_cNotB, q_gAll, q_gList, q_gListT, q_gTuple, q_gSorted, q_gSortedT, q_gRepr, q_cLt, q_cLe, q_cGt, q_cGe, q_cEq, q_cNe, q_cEqS, q_cNeS, q_cEqR, q_cNeR, q_cIsN, q_cIsS, q_cIn, q_cNi, q_cInR, q_cNiR, q_cInT, q_cNiT] | rfl))) fun sign10 =>
  (vb_setN (ps_set (i := 3) nd rfl (by first | exact Or.inl rfl | exact Or.inr rfl) (ve_eq (m' := (R.ok ([] : List (List Int)))) (ve_lst (s := .frz) (fun (x : (Unit)) => ([] : List (List Int))) va_nil) (by rfl))) fun found11 =>
  (tb_for (f := (f_law_without_l2 place2 x1_ size8 sign10)) (e := (fun s2 : (List (List Int)) => (se (se (se (se (se e0 1 (.vl .fz (en place2))) 2 (.vl .fz (en x1_))) 3 (.vl (.ow (.lst .frz) none) (en s2))) 6 (.vl .fz (en size8))) 7 (.vl .fz (en sign10))))) (s0 := found11) (g := (gN 8)) (fun _ _ => rfl) (passes_of rfl) rfl (vi_eqm (m' := (R.ok rows1)) (vi_list (ve_v (pv 0) rfl)) (by rfl)) (vg_name (pg_name (i := 8) nd rfl (by first | exact Or.inl rfl | exact Or.inr rfl))) (Le.se (Le.se (Le.se (Le.se (Le.se Le.e0 rfl) rfl) rfl) rfl) rfl)
  (fun x2_ s2 => (vb_set (ps_set (i := 9) nd rfl (by first | exact Or.inl rfl | exact Or.inr rfl) (ve_eq (m' := (((rng1 (x1_.length : Int)).bind fun x23 => (noX (mapR (fun v16 : Int => (((ixR x2_ v16).bind fun x17 => (mulR size8 x17)).bind fun x21 => (((ixR x2_ place2).bind fun x18 => (mulR sign10 x18)).bind fun x19 => (ixR x1_ v16).bind fun x20 => (mulR x19 x20)).bind fun x22 => R.ok (x21 - x22))) x23))).bind fun x24 => (f_law_shorter x24))) (ve_call c_law_shorter hr (pass_fn (takes_of rfl rfl rfl rfl)) (va_cons (ve_frz (te_lc (own := [("_law_k", 11)]) (g := (gN 11)) lcM rfl nd (vi_rng1 (by rfl) (B.bi "range" (by decide)) (va_cons (ve_ca ca_len gLen hLen (pe_callB call_len_seq (by rfl) (B.bi "len" (by decide)) (by decide +kernel) (va_cons (ve_v (pv 2) rfl) va_nil))) va_nil)) (blkOk_by (N := ["_law_rows_here", "_law_place", "_law_row", "_law_found", "_law_up", "_law_down", "_law_size", "_law_sign", "_law_other", "_law_fresh", "_law_item", "_law_k"]) (sc := defScope s_law_without) (by decide +kernel)) (fun _ _ _ _ _ => (vg_name (pg_name (i := 11) nd rfl (by first | exact Or.inl rfl | exact Or.inr rfl)))) (fun _ => rfl) (fun (v16 : Int) _ _ _ _ _ => vts_nil) (fun (v16 : Int) _ _ _ _ _ => (ve_eq (m' := (((ixR x2_ v16).bind fun x17 => (mulR size8 x17)).bind fun x21 => (((ixR x2_ place2).bind fun x18 => (mulR sign10 x18)).bind fun x19 => (ixR x1_ v16).bind fun x20 => (mulR x19 x20)).bind fun x22 => R.ok (x21 - x22))) (te_sub (te_mul (ve_v (pv 6) rfl) (te_ixL (ve_v (pv 8) rfl) (ve_v (pv 11) rfl))) (te_mul (te_mul (ve_v (pv 7) rfl) (te_ixL (ve_v (pv 8) rfl) (ve_v (pv 1) rfl))) (te_ixL (ve_v (pv 2) rfl) (ve_v (pv 11) rfl)))) (by first | with_reducible rfl | simp only [R.bind_eta, R.bind_assoc, R.okb, R.exb, R.nob, R.map_eq, q_gInt, q_gIntB, q_gLen, q_gLenT, q_gLenN, q_gAbs, q_gMax2, q_gMin2, q_gGcd, q_gSum, q_gAny, q_gAnyI, q_gMaxL, q_gLenF, q_cIsB, q_cNotB, q_gAll, q_gList, q_gListT, q_gTuple, q_gSorted, q_gSortedT, q_gRepr, q_cLt, q_cLe, q_cGt, q_cGe, q_cEq, q_cNe, q_cEqS, q_cNeS, q_cEqR, q_cNeR, q_cIsN, q_cIsS, q_cIn, q_cNi, q_cInR, q_cNiR, q_cInT, q_cNiT] | rfl))))) va_nil)) (by first | with_reducible rfl | simp only [R.bind_eta, R.bind_assoc, R.okb, R.exb, R.nob, R.map_eq, q_gInt, q_gIntB, q_gLen, q_gLenT, q_gLenN, q_gAbs, q_gMax2, q_gMin2, q_gGcd, q_gSum, q_gAny, q_gAnyI, q_gMaxL, q_gLenF, q_cIsB, q_cNotB, q_gAll, q_gList, q_gListT, q_gTuple, q_gSorted, q_gSortedT, q_gRepr, q_cLt, q_cLe, q_cGt, q_cGe, q_cEq, q_cNe, q_cEqS, q_cNeS, q_cEqR, q_cNeR, q_cIsN, q_cIsS, q_cIn, q_cNi, q_cInR, q_cNiR, q_cInT, q_cNiT] | rfl))) fun fresh25 =>
  (vb_if (vt_w (vw_andP (vt_eq (t' := (R.ok (fresh25.any fun y => y != 0))) (vt_val (ve_ca ca_anyI gAnyI hAnyI (pe_callB (cr_anyI rfl) (by rfl) (B.bi "any" (by decide)) (by decide +kernel) (va_cons (ve_v (pv 9) rfl) va_nil)))) (by rfl)) (vw_and1 (vt_all (vt_eq (t' := (R.ok (nmemD fresh25 s2))) (vt_cmp (op_notInD hr.u65) o2_niL cNi (hNi) (ve_v (pv 9) rfl) (ve_v (pv 3) rfl) (by rfl)) (by rfl))))))
  (tb_app (a := s2) (s2 := .frz) (ps_expr (pe_bm PySem.F.plainAttrs_list PySem.F.slot_list_append PySem.F.type_list_append mt_append (vp_v (pv 3)) (pa_cons (ve_v (pv 9) rfl) pa_nil))) (by first | with_reducible rfl | simp only [R.bind_eta, R.bind_assoc, R.okb, R.exb, R.nob, R.map_eq, q_gInt, q_gIntB, q_gLen, q_gLenT, q_gLenN, q_gAbs, q_gMax2, q_gMin2, q_gGcd, q_gSum, q_gAny, q_gAnyI, q_gMaxL, q_gLenF, q_cIsB, q_cNotB, q_gAll, q_gList, q_gListT, q_gTuple, q_gSorted, q_gSortedT, q_gRepr, q_cLt, q_cLe, q_cGt, q_cGe, q_cEq, q_cNe, q_cEqS, q_cNeS, q_cEqR, q_cNeR, q_cIsN, q_cIsS, q_cIn, q_cNi, q_cInR, q_cNiR, q_cInT, q_cNiT] | rfl) fun found26 =>
  (vb_nilC (b := found26) rfl (Le.se (Le.se (Le.se (Le.se (Le.se Le.e0 rfl) rfl) rfl) rfl) rfl)))
  (vb_nilC (b := s2) rfl (Le.se (Le.se (Le.se (Le.se (Le.se Le.e0 rfl) rfl) rfl) rfl) rfl)))))
  fun s2' => (vb_frz 3 rfl (vb_retP (x := s2') (ps_ret (ve_eq (m' := (R.ok s2')) (ve_v (pv 3) rfl) (by rfl)))))))))
  (vb_nilC (b := (Lc.nx ())) rfl (Le.se (Le.se Le.e0 rfl) rfl))))
  fun s1' => (vb_setN (ps_set (i := 3) nd rfl (by first | exact Or.inl rfl | exact Or.inr rfl) (ve_eq (m' := (R.ok ([] : List (List Int)))) (ve_lst (s := .frz) (fun (x : (Unit)) => ([] : List (List Int))) va_nil) (by rfl))) fun found27 =>
  (tb_for (f := (f_law_without_l3 rows1 place2)) (e := (fun s3 : (List (List Int)) => (se (se (se e0 0 (.vl .fz (en rows1))) 1 (.vl .fz (en place2))) 3 (.vl (.ow (.lst .frz) none) (en s3))))) (s0 := found27) (g := (gN 2)) (fun _ _ => rfl) (passes_of rfl) rfl (vi_eqm (m' := (R.ok rows1)) (vi_list (ve_v (pv 0) rfl)) (by rfl)) (vg_name (pg_name (i := 2) nd rfl (by first | exact Or.inl rfl | exact Or.inr rfl))) (Le.se (Le.se (Le.se Le.e0 rfl) rfl) rfl)
  (fun x3_ s3 => (vb_if (vt_w (vw_and (vt_eq (t' := ((ixR x3_ place2).bind fun x30 => R.ok (decide (x30 = (0 : Int))))) (vt_cmp (op_eqA hr.room.units) o2_eq cEq (hEq) (te_ixL (ve_v (pv 2) rfl) (ve_v (pv 1) rfl)) ve_int (nomark _)) (by first | with_reducible rfl | simp only [R.bind_eta, R.bind_assoc, R.okb, R.exb, R.nob, R.map_eq, q_gInt, q_gIntB, q_gLen, q_gLenT, q_gLenN, q_gAbs, q_gMax2, q_gMin2, q_gGcd, q_gSum, q_gAny, q_gAnyI, q_gMaxL, q_gLenF, q_cIsB, q_cNotB, q_gAll, q_gList, q_gListT, q_gTuple, q_gSorted, q_gSortedT, q_gRepr, q_cLt, q_cLe, q_cGt, q_cGe, q_cEq, q_cNe, q_cEqS, q_cNeS, q_cEqR, q_cNeR, q_cIsN, q_cIsS, q_cIn, q_cNi, q_cInR, q_cNiR, q_cInT, q_cNiT] | rfl)) (vw_and1 (vt_all (vt_eq (t' := (R.ok (nmemD x3_ s3))) (vt_cmp (op_notInD hr.u65) o2_niL cNi (hNi) (ve_v (pv 2) rfl) (ve_v (pv 3) rfl) (by rfl)) (by rfl))))))
  (tb_app (a := s3) (s2 := .frz) (ps_expr (pe_bm PySem.F.plainAttrs_list PySem.F.slot_list_append PySem.F.type_list_append mt_append (vp_v (pv 3)) (pa_cons (ve_v (pv 2) rfl) pa_nil))) (by first | with_reducible rfl | simp only [R.bind_eta, R.bind_assoc, R.okb, R.exb, R.nob, R.map_eq, q_gInt, q_gIntB, q_gLen, q_gLenT, q_gLenN, q_gAbs, q_gMax2, q_gMin2, q_gGcd, q_gSum, q_gAny, q_gAnyI, q_gMaxL, q_gLenF, q_cIsB, q_cNotB, q_gAll, q_gList, q_gListT, q_gTuple, q_gSorted, q_gSortedT, q_gRepr, q_cLt, q_cLe, q_cGt, q_cGe, q_cEq, q_cNe, q_cEqS, q_cNeS, q_cEqR, q_cNeR, q_cIsN, q_cIsS, q_cIn, q_cNi, q_cInR, q_cNiR, q_cInT, q_cNiT] | rfl) fun found31 =>
  (vb_nilC (b := found31) rfl (Le.se (Le.se (Le.se Le.e0 rfl) rfl) rfl)))
  (vb_nilC (b := s3) rfl (Le.se (Le.se (Le.se Le.e0 rfl) rfl) rfl))))
  fun s3' => (tb_for (f := (f_law_without_l4 rows1 place2)) (e := (fun s4 : (List (List Int)) => (se (se (se e0 0 (.vl .fz (en rows1))) 1 (.vl .fz (en place2))) 3 (.vl (.ow (.lst .frz) none) (en s4))))) (s0 := (s3')) (g := (gN 4)) (fun _ _ => rfl) (passes_of rfl) rfl (vi_eqm (m' := (R.ok rows1)) (vi_list (ve_v (pv 0) rfl)) (by rfl)) (vg_name (pg_name (i := 4) nd rfl (by first | exact Or.inl rfl | exact Or.inr rfl))) (Le.se (Le.se (Le.se Le.e0 rfl) rfl) rfl)
  (fun x4_ s4 => (tb_for (f := (f_law_without_l5 rows1 place2 x4_)) (e := (fun s5 : (List (List Int)) => (se (se (se (se e0 0 (.vl .fz (en rows1))) 1 (.vl .fz (en place2))) 3 (.vl (.ow (.lst .frz) none) (en s5))) 4 (.vl .fz (en x4_))))) (s0 := s4) (g := (gN 5)) (fun _ _ => rfl) (passes_of rfl) rfl (vi_eqm (m' := (R.ok rows1)) (vi_list (ve_v (pv 0) rfl)) (by rfl)) (vg_name (pg_name (i := 5) nd rfl (by first | exact Or.inl rfl | exact Or.inr rfl))) (Le.se (Le.se (Le.se (Le.se Le.e0 rfl) rfl) rfl) rfl)
  (fun x5_ s5 => (vb_if (vt_w (vw_and (vt_eq (t' := ((ixR x4_ place2).bind fun x37 => R.ok (decide ((0 : Int) < x37)))) (vt_cmp op_gt o2_gt cGt hGt (te_ixL (ve_v (pv 4) rfl) (ve_v (pv 1) rfl)) ve_int (nomark _)) (by first | with_reducible rfl | simp only [R.bind_eta, R.bind_assoc, R.okb, R.exb, R.nob, R.map_eq, q_gInt, q_gIntB, q_gLen, q_gLenT, q_gLenN, q_gAbs, q_gMax2, q_gMin2, q_gGcd, q_gSum, q_gAny, q_gAnyI, q_gMaxL, q_gLenF, q_cIsB, q_cNotB, q_gAll, q_gList, q_gListT, q_gTuple, q_gSorted, q_gSortedT, q_gRepr, q_cLt, q_cLe, q_cGt, q_cGe, q_cEq, q_cNe, q_cEqS, q_cNeS, q_cEqR, q_cNeR, q_cIsN, q_cIsS, q_cIn, q_cNi, q_cInR, q_cNiR, q_cInT, q_cNiT] | rfl)) (vw_and1 (vt_eq (t' := ((ixR x5_ place2).bind fun x38 => R.ok (decide (x38 < (0 : Int))))) (vt_cmp op_lt o2_lt cLt hLt (te_ixL (ve_v (pv 5) rfl) (ve_v (pv 1) rfl)) ve_int (nomark _)) (by first | with_reducible rfl | simp only [R.bind_eta, R.bind_assoc, R.okb, R.exb, R.nob, R.map_eq, q_gInt, q_gIntB, q_gLen, q_gLenT, q_gLenN, q_gAbs, q_gMax2, q_gMin2, q_gGcd, q_gSum, q_gAny, q_gAnyI, q_gMaxL, q_gLenF, q_cIsB, q_cNotB, q_gAll, q_gList, q_gListT, q_gTuple, q_gSorted, q_gSortedT, q_gRepr, q_cLt, q_cLe, q_cGt, q_cGe, q_cEq, q_cNe, q_cEqS, q_cNeS, q_cEqR, q_cNeR, q_cIsN, q_cIsS, q_cIn, q_cNi, q_cInR, q_cNiR, q_cInT, q_cNiT] | rfl)))))
  (vb_set (ps_set (i := 9) nd rfl (by first | exact Or.inl rfl | exact Or.inr rfl) (ve_eq (m' := (((rng1 (x4_.length : Int)).bind fun x46 => (noX (mapR (fun v39 : Int => (((ixR x4_ place2).bind fun x40 => (ixR x5_ v39).bind fun x41 => (mulR x40 x41)).bind fun x44 => ((ixR x5_ place2).bind fun x42 => (ixR x4_ v39).bind fun x43 => (mulR x42 x43)).bind fun x45 => R.ok (x44 - x45))) x46))).bind fun x47 => (f_law_shorter x47))) (ve_call c_law_shorter hr (pass_fn (takes_of rfl rfl rfl rfl)) (va_cons (ve_frz (te_lc (own := [("_law_k", 11)]) (g := (gN 11)) lcM rfl nd (vi_rng1 (by rfl) (B.bi "range" (by decide)) (va_cons (ve_ca ca_len gLen hLen (pe_callB call_len_seq (by rfl) (B.bi "len" (by decide)) (by decide +kernel) (va_cons (ve_v (pv 4) rfl) va_nil))) va_nil)) (blkOk_by (N := ["_law_rows_here", "_law_place", "_law_row", "_law_found", "_law_up", "_law_down", "_law_size", "_law_sign", "_law_other", "_law_fresh", "_law_item", "_law_k"]) (sc := defScope s_law_without) (by decide +kernel)) (fun _ _ _ _ _ => (vg_name (pg_name (i := 11) nd rfl (by first | exact Or.inl rfl | exact Or.inr rfl)))) (fun _ => rfl) (fun (v39 : Int) _ _ _ _ _ => vts_nil) (fun (v39 : Int) _ _ _ _ _ => (ve_eq (m' := (((ixR x4_ place2).bind fun x40 => (ixR x5_ v39).bind fun x41 => (mulR x40 x41)).bind fun x44 => ((ixR x5_ place2).bind fun x42 => (ixR x4_ v39).bind fun x43 => (mulR x42 x43)).bind fun x45 => R.ok (x44 - x45))) (te_sub (te_mul (te_ixL (ve_v (pv 4) rfl) (ve_v (pv 1) rfl)) (te_ixL (ve_v (pv 5) rfl) (ve_v (pv 11) rfl))) (te_mul (te_ixL (ve_v (pv 5) rfl) (ve_v (pv 1) rfl)) (te_ixL (ve_v (pv 4) rfl) (ve_v (pv 11) rfl)))) (by first | with_reducible rfl | simp only [R.bind_eta, R.bind_assoc, R.okb, R.exb, R.nob, R.map_eq, q_gInt, q_gIntB, q_gLen, q_gLenT, q_gLenN, q_gAbs, q_gMax2, q_gMin2, q_gGcd, q_gSum, q_gAny, q_gAnyI, q_gMaxL, q_gLenF, q_cIsB, q_cNotB, q_gAll, q_gList, q_gListT, q_gTuple, q_gSorted, q_gSortedT, q_gRepr, q_cLt, q_cLe, q_cGt, q_cGe, q_cEq, q_cNe, q_cEqS, q_cNeS, q_cEqR, q_cNeR, q_cIsN, q_cIsS, q_cIn, q_cNi, q_cInR, q_cNiR, q_cInT, q_cNiT] | rfl))))) va_nil)) (by first | with_reducible rfl | simp only [R.bind_eta, R.bind_assoc, R.okb, R.exb, R.nob, R.map_eq, q_gInt, q_gIntB, q_gLen, q_gLenT, q_gLenN, q_gAbs, q_gMax2, q_gMin2, q_gGcd, q_gSum, q_gAny, q_gAnyI, q_gMaxL, q_gLenF, q_cIsB, q_cNotB, q_gAll, q_gList, q_gListT, q_gTuple, q_gSorted, q_gSortedT, q_gRepr, q_cLt, q_cLe, q_cGt, q_cGe, q_cEq, q_cNe, q_cEqS, q_cNeS, q_cEqR, q_cNeR, q_cIsN, q_cIsS, q_cIn, q_cNi, q_cInR, q_cNiR, q_cInT, q_cNiT] | rfl))) fun fresh48 =>
  (vb_if (vt_w (vw_andP (vt_eq (t' := (R.ok (fresh48.any fun y => y != 0))) (vt_val (ve_ca ca_anyI gAnyI hAnyI (pe_callB (cr_anyI rfl) (by rfl) (B.bi "any" (by decide)) (by decide +kernel) (va_cons (ve_v (pv 9) rfl) va_nil)))) (by rfl)) (vw_and1 (vt_all (vt_eq (t' := (R.ok (nmemD fresh48 s5))) (vt_cmp (op_notInD hr.u65) o2_niL cNi (hNi) (ve_v (pv 9) rfl) (ve_v (pv 3) rfl) (by rfl)) (by rfl))))))
  (tb_app (a := s5) (s2 := .frz) (ps_expr (pe_bm PySem.F.plainAttrs_list PySem.F.slot_list_append PySem.F.type_list_append mt_append (vp_v (pv 3)) (pa_cons (ve_v (pv 9) rfl) pa_nil))) (by first | with_reducible rfl | simp only [R.bind_eta, R.bind_assoc, R.okb, R.exb, R.nob, R.map_eq, q_gInt, q_gIntB, q_gLen, q_gLenT, q_gLenN, q_gAbs, q_gMax2, q_gMin2, q_gGcd, q_gSum, q_gAny, q_gAnyI, q_gMaxL, q_gLenF, q_cIsB, q_cNotB, q_gAll, q_gList, q_gListT, q_gTuple, q_gSorted, q_gSortedT, q_gRepr, q_cLt, q_cLe, q_cGt, q_cGe, q_cEq, q_cNe, q_cEqS, q_cNeS, q_cEqR, q_cNeR, q_cIsN, q_cIsS, q_cIn, q_cNi, q_cInR, q_cNiR, q_cInT, q_cNiT] | rfl) fun found49 =>
  (vb_nilC (b := found49) rfl (Le.se (Le.se (Le.se (Le.se Le.e0 rfl) rfl) rfl) rfl)))
  (vb_nilC (b := s5) rfl (Le.se (Le.se (Le.se (Le.se Le.e0 rfl) rfl) rfl) rfl))))
  (vb_nilC (b := s5) rfl (Le.se (Le.se (Le.se (Le.se Le.e0 rfl) rfl) rfl) rfl))))
  fun s5' => (vb_nilC (b := (s5')) rfl (Le.se (Le.se (Le.se Le.e0 rfl) rfl) rfl))))
  fun s4' => (vb_frz 3 rfl (vb_retP (x := s4') (ps_ret (ve_eq (m' := (R.ok s4')) (ve_v (pv 3) rfl) (by rfl))))))))))

abbrev s_law_possible : Stmt := topS 20
theorem sc_law_possible : FnScope ["_law_conditions", "_law_count", "_law_rows_here", "_law_k", "_law_row"] ["_law_conditions", "_law_count"] (defScope s_law_possible) := ⟨rfl, rfl, rfl, by decide +kernel, rfl, by decide +kernel, by decide +kernel⟩
theorem ok_law_possible (B : Bs K mg W) (hW : W.rc.xa = none) (d : Dn K mg "_law_possible" "_law_possible" s_law_possible ["_law_conditions", "_law_count"]) (c_law_shorter : Cal P w K mg base W "_law_shorter" 2 (fun a : ((List Int) × Unit) => f_law_shorter a.1) .frz) (c_law_without : Cal P w K mg base W "_law_without" 3 (fun a : ((List (List Int)) × Int × Unit) => f_law_without a.1 a.2.1) .frz) : Cal P w K mg base W "_law_possible" 4 (fun a : ((List (List Int)) × Int × Unit) => f_law_possible a.1 a.2.1) .frz :=
  cal d sc_law_possible fun fa cdv Ar outer sh H E hr a => by
    have nd := sc_law_possible.nd
    obtain ⟨conditions1, count2, _⟩ := a
    exact (show VB (cxOf (L2.CX P w) P w K mg base ["_law_conditions", "_law_count", "_law_rows_here", "_law_k", "_law_row"] "_law_possible" (defScope s_law_possible) fa cdv Ar outer sh H E) W (fun _ => E) (argE 0 [en conditions1, en count2]) (defBody s_law_possible) (f_law_possible conditions1 count2) (rtOut .frz) from
  (vb_set (ps_eqm (m' := (noX (fmapR (fun v3 : (List Int) => (R.ok (v3.any fun y => y != 0))) (fun v3 : (List Int) => (f_law_shorter v3)) conditions1))) (ps_frz (ts_lc (i := 2) (own := [("_law_row", 4)]) (g := (gN 4)) lcF rfl nd rfl rfl (sw_true rfl rfl rfl (by decide +kernel)) (vi_list (ve_v (pv 0) rfl)) (blkOk_by (N := ["_law_conditions", "_law_count", "_law_rows_here", "_law_k", "_law_row"]) (sc := defScope s_law_possible) (by decide +kernel)) (fun _ _ _ _ _ => (vg_name (pg_name (i := 4) nd rfl (by first | exact Or.inl rfl | exact Or.inr rfl)))) (fun _ => rfl) (fun (v3 : (List Int)) _ _ _ _ _ => (vts_one (vt_eq (t' := (R.ok (v3.any fun y => y != 0))) (vt_val (ve_ca ca_anyI gAnyI hAnyI (pe_callB (cr_anyI rfl) (by rfl) (B.bi "any" (by decide)) (by decide +kernel) (va_cons (ve_v (pv 4) rfl) va_nil)))) (by rfl)))) (fun (v3 : (List Int)) _ _ _ _ _ => (ve_eq (m' := (f_law_shorter v3)) (ve_call c_law_shorter hr pass_any (va_cons (ve_v (pv 4) rfl) va_nil)) (by first | with_reducible rfl | simp only [R.bind_eta, R.bind_assoc, R.okb, R.exb, R.nob, R.map_eq, q_gInt, q_gIntB, q_gLen, q_gLenT, q_gLenN, q_gAbs, q_gMax2, q_gMin2, q_gGcd, q_gSum, q_gAny, q_gAnyI, q_gMaxL, q_gLenF, q_cIsB, q_cNotB, q_gAll, q_gList, q_gListT, q_gTuple, q_gSorted, q_gSortedT, q_gRepr, q_cLt, q_cLe, q_cGt, q_cGe, q_cEq, q_cNe, q_cEqS, q_cNeS, q_cEqR, q_cNeR, q_cIsN, q_cIsS, q_cIn, q_cNi, q_cInR, q_cNiR, q_cInT, q_cNiT] | rfl))))) (by first | with_reducible rfl | simp only [R.bind_eta, R.bind_assoc, R.okb, R.exb, R.nob, R.map_eq, q_gInt, q_gIntB, q_gLen, q_gLenT, q_gLenN, q_gAbs, q_gMax2, q_gMin2, q_gGcd, q_gSum, q_gAny, q_gAnyI, q_gMaxL, q_gLenF, q_cIsB, q_cNotB, q_gAll, q_gList, q_gListT, q_gTuple, q_gSorted, q_gSortedT, q_gRepr, q_cLt, q_cLe, q_cGt, q_cGe, q_cEq, q_cNe, q_cEqS, q_cNeS, q_cEqR, q_cNeR, q_cIsN, q_cIsS, q_cIn, q_cNi, q_cInR, q_cNiR, q_cInT, q_cNiT] | rfl)) fun rows4 =>
  (tb_for (f := (f_law_possible_l1 count2)) (e := (fun s1 : (List (List Int)) => (se (se e0 1 (.vl .fz (en count2))) 2 (.vl .fz (en s1))))) (s0 := rows4) (g := (gN 3)) (fun _ _ => rfl) (passes_of rfl) rfl (vi_eqm (m' := (rng1 count2)) (vi_rng1 (by rfl) (B.bi "range" (by decide)) (va_cons (ve_v (pv 1) rfl) va_nil)) (by first | with_reducible rfl | simp only [R.bind_eta, R.bind_assoc, R.okb, R.exb, R.nob, R.map_eq, q_gInt, q_gIntB, q_gLen, q_gLenT, q_gLenN, q_gAbs, q_gMax2, q_gMin2, q_gGcd, q_gSum, q_gAny, q_gAnyI, q_gMaxL, q_gLenF, q_cIsB, q_cNotB, q_gAll, q_gList, q_gListT, q_gTuple, q_gSorted, q_gSortedT, q_gRepr, q_cLt, q_cLe, q_cGt, q_cGe, q_cEq, q_cNe, q_cEqS, q_cNeS, q_cEqR, q_cNeR, q_cIsN, q_cIsS, q_cIn, q_cNi, q_cInR, q_cNiR, q_cInT, q_cNiT] | rfl)) (vg_name (pg_name (i := 3) nd rfl (by first | exact Or.inl rfl | exact Or.inr rfl))) (Le.se (Le.se Le.e0 rfl) rfl)
  (fun x1_ s1 => (vb_set (ps_set (i := 2) nd rfl (by first | exact Or.inl rfl | exact Or.inr rfl) (ve_eq (m' := (f_law_without s1 (count2 - x1_))) (ve_call c_law_without hr (pass_fn (takes_of rfl rfl rfl rfl)) (va_cons (ve_v (pv 2) rfl) (va_cons (te_sub (ve_v (pv 1) rfl) (ve_v (pv 3) rfl)) va_nil))) (by first | with_reducible rfl | simp only [R.bind_eta, R.bind_assoc, R.okb, R.exb, R.nob, R.map_eq, q_gInt, q_gIntB, q_gLen, q_gLenT, q_gLenN, q_gAbs, q_gMax2, q_gMin2, q_gGcd, q_gSum, q_gAny, q_gAnyI, q_gMaxL, q_gLenF, q_cIsB, q_cNotB, q_gAll, q_gList, q_gListT, q_gTuple, q_gSorted, q_gSortedT, q_gRepr, q_cLt, q_cLe, q_cGt, q_cGe, q_cEq, q_cNe, q_cEqS, q_cNeS, q_cEqR, q_cNeR, q_cIsN, q_cIsS, q_cIn, q_cNi, q_cInR, q_cNiR, q_cInT, q_cNiT] | rfl))) fun rows6 =>
  (vb_nilC (b := rows6) rfl (Le.se (Le.se Le.e0 rfl) rfl))))
  fun s1' => (vb_ret0 (ps_ret (ve_eq (m' := ((noX (mapR (fun v7 : (List Int) => ((ixR v7 (0 : Int)).bind fun x8 => R.ok (decide ((0 : Int) ≤ x8)))) s1')).bind fun x9 => R.ok (x9.all id))) (ve_ca ca_all gAll hAll (pe_callB (cr_all rfl) (by rfl) (B.bi "all" (by decide)) (by decide +kernel) (va_cons (ve_frz (te_lc (own := [("_law_row", 4)]) (g := (gN 4)) lcM rfl nd (vi_list (ve_v (pv 2) rfl)) (blkOk_by (N := ["_law_conditions", "_law_count", "_law_rows_here", "_law_k", "_law_row"]) (sc := defScope s_law_possible) (by decide +kernel)) (fun _ _ _ _ _ => (vg_name (pg_name (i := 4) nd rfl (by first | exact Or.inl rfl | exact Or.inr rfl)))) (fun _ => rfl) (fun (v7 : (List Int)) _ _ _ _ _ => vts_nil) (fun (v7 : (List Int)) _ _ _ _ _ => (ve_eq (m' := ((ixR v7 (0 : Int)).bind fun x8 => R.ok (decide ((0 : Int) ≤ x8)))) (ve_cmp op_ge o2_ge cGe hGe (te_ixL (ve_v (pv 4) rfl) ve_int) ve_int (nomark _)) (by first | with_reducible rfl | simp only [R.bind_eta, R.bind_assoc, R.okb, R.exb, R.nob, R.map_eq, q_gInt, q_gIntB, q_gLen, q_gLenT, q_gLenN, q_gAbs, q_gMax2, q_gMin2, q_gGcd, q_gSum, q_gAny, q_gAnyI, q_gMaxL, q_gLenF, q_cIsB, q_cNotB, q_gAll, q_gList, q_gListT, q_gTuple, q_gSorted, q_gSortedT, q_gRepr, q_cLt, q_cLe, q_cGt, q_cGe, q_cEq, q_cNe, q_cEqS, q_cNeS, q_cEqR, q_cNeR, q_cIsN, q_cIsS, q_cIn, q_cNi, q_cInR, q_cNiR, q_cInT, q_cNiT] | rfl))))) va_nil))) (by first | with_reducible rfl | simp only [R.bind_eta, R.bind_assoc, R.okb, R.exb, R.nob, R.map_eq, q_gInt, q_gIntB, q_gLen, q_gLenT, q_gLenN, q_gAbs, q_gMax2, q_gMin2, q_gGcd, q_gSum, q_gAny, q_gAnyI, q_gMaxL, q_gLenF, q_cIsB, q_cNotB, q_gAll, q_gList, q_gListT, q_gTuple, q_gSorted, q_gSortedT, q_gRepr, q_cLt, q_cLe, q_cGt, q_cGe, q_cEq, q_cNe, q_cEqS, q_cNeS, q_cEqR, q_cNeR, q_cIsN, q_cIsS, q_cIn, q_cNi, q_cInR, q_cNiR, q_cInT, q_cNiT] | rfl)))))))

abbrev s_law_scaled : Stmt := topS 21
theorem sc_law_scaled : FnScope ["_law_first", "_law_number"] ["_law_first", "_law_number"] (defScope s_law_scaled) := ⟨rfl, rfl, rfl, by decide +kernel, rfl, by decide +kernel, by decide +kernel⟩
theorem ok_law_scaled (B : Bs K mg W) (hW : W.rc.xa = none) (d : Dn K mg "_law_scaled" "_law_scaled" s_law_scaled ["_law_first", "_law_number"]) (c_law_fraction : Cal P w K mg base W "_law_fraction" 2 (fun a : (Int × Int × Unit) => f_law_fraction a.1 a.2.1) .frz) : Cal P w K mg base W "_law_scaled" 3 (fun a : ((Int × Int) × Int × Unit) => f_law_scaled a.1 a.2.1) .frz :=
  cal d sc_law_scaled fun fa cdv Ar outer sh H E hr a => by
    have nd := sc_law_scaled.nd
    obtain ⟨first1, number2, _⟩ := a
    exact (show VB (cxOf (L2.CX P w) P w K mg base ["_law_first", "_law_number"] "_law_scaled" (defScope s_law_scaled) fa cdv Ar outer sh H E) W (fun _ => E) (argE 0 [en first1, en number2]) (defBody s_law_scaled) (f_law_scaled first1 number2) (rtOut .frz) from
  (vb_ret0 (ps_ret (ve_eq (m' := ((mulR first1.1 number2).bind fun x3 => (f_law_fraction x3 first1.2))) (ve_call c_law_fraction hr (pass_fn (takes_of rfl rfl rfl rfl)) (va_cons (te_mul (te_prj (fun x : (Int × Int) => x.1) (ve_v (pv 0) rfl) ve_int) (ve_v (pv 1) rfl)) (va_cons (te_prj (fun x : (Int × Int) => x.2) (ve_v (pv 0) rfl) ve_int) va_nil))) (by first | with_reducible rfl | simp only [R.bind_eta, R.bind_assoc, R.okb, R.exb, R.nob, R.map_eq, q_gInt, q_gIntB, q_gLen, q_gLenT, q_gLenN, q_gAbs, q_gMax2, q_gMin2, q_gGcd, q_gSum, q_gAny, q_gAnyI, q_gMaxL, q_gLenF, q_cIsB, q_cNotB, q_gAll, q_gList, q_gListT, q_gTuple, q_gSorted, q_gSortedT, q_gRepr, q_cLt, q_cLe, q_cGt, q_cGe, q_cEq, q_cNe, q_cEqS, q_cNeS, q_cEqR, q_cNeR, q_cIsN, q_cIsS, q_cIn, q_cNi, q_cInR, q_cNiR, q_cInT, q_cNiT] | rfl)))))

abbrev s_law_sum : Stmt := topS 22
theorem sc_law_sum : FnScope ["_law_fractions", "_law_found", "_law_one"] ["_law_fractions"] (defScope s_law_sum) := ⟨rfl, rfl, rfl, by decide +kernel, rfl, by decide +kernel, by decide +kernel⟩
theorem ok_law_sum (B : Bs K mg W) (hW : W.rc.xa = none) (d : Dn K mg "_law_sum" "_law_sum" s_law_sum ["_law_fractions"]) (c_law_plus : Cal P w K mg base W "_law_plus" 3 (fun a : ((Int × Int) × (Int × Int) × Unit) => f_law_plus a.1 a.2.1) .frz) : Cal P w K mg base W "_law_sum" 4 (fun a : ((List (Int × Int)) × Unit) => f_law_sum a.1) .frz :=
  cal d sc_law_sum fun fa cdv Ar outer sh H E hr a => by
    have nd := sc_law_sum.nd
    obtain ⟨fractions1, _⟩ := a
    exact (show VB (cxOf (L2.CX P w) P w K mg base ["_law_fractions", "_law_found", "_law_one"] "_law_sum" (defScope s_law_sum) fa cdv Ar outer sh H E) W (fun _ => E) (argE 0 [en fractions1]) (defBody s_law_sum) (f_law_sum fractions1) (rtOut .frz) from
  (vb_set (ps_set (i := 1) nd rfl (by first | exact Or.inl rfl | exact Or.inr rfl) (ve_eq (m' := (R.ok ((0 : Int), (1 : Int)))) (ve_frz (ve_tup (s := .frz) (fun (x : (Int × Int × Unit)) => ((x.1, x.2.1) : (Int × Int))) (va_cons ve_int (va_cons ve_int va_nil)))) (by rfl))) fun found2 =>
  (tb_for (f := (f_law_sum_l1 )) (e := (fun s1 : (Int × Int) => (se e0 1 (.vl .fz (en s1))))) (s0 := found2) (g := (gN 2)) (fun _ _ => rfl) (passes_of rfl) rfl (vi_eqm (m' := (R.ok fractions1)) (vi_list (ve_v (pv 0) rfl)) (by rfl)) (vg_name (pg_name (i := 2) nd rfl (by first | exact Or.inl rfl | exact Or.inr rfl))) (Le.se Le.e0 rfl)
  (fun x1_ s1 => (vb_set (ps_set (i := 1) nd rfl (by first | exact Or.inl rfl | exact Or.inr rfl) (ve_eq (m' := (f_law_plus s1 x1_)) (ve_call c_law_plus hr (pass_fn (takes_of rfl rfl rfl rfl)) (va_cons (ve_v (pv 1) rfl) (va_cons (ve_v (pv 2) rfl) va_nil))) (by first | with_reducible rfl | simp only [R.bind_eta, R.bind_assoc, R.okb, R.exb, R.nob, R.map_eq, q_gInt, q_gIntB, q_gLen, q_gLenT, q_gLenN, q_gAbs, q_gMax2, q_gMin2, q_gGcd, q_gSum, q_gAny, q_gAnyI, q_gMaxL, q_gLenF, q_cIsB, q_cNotB, q_gAll, q_gList, q_gListT, q_gTuple, q_gSorted, q_gSortedT, q_gRepr, q_cLt, q_cLe, q_cGt, q_cGe, q_cEq, q_cNe, q_cEqS, q_cNeS, q_cEqR, q_cNeR, q_cIsN, q_cIsS, q_cIn, q_cNi, q_cInR, q_cNiR, q_cInT, q_cNiT] | rfl))) fun found3 =>
  (vb_nilC (b := found3) rfl (Le.se Le.e0 rfl))))
  fun s1' => (vb_retP (x := s1') (ps_ret (ve_eq (m' := (R.ok s1')) (ve_v (pv 1) rfl) (by rfl)))))))

abbrev s_law_is_refusal : Stmt := topS 23
theorem sc_law_is_refusal : FnScope ["_law_rows_here", "_law_integers", "_law_width", "_law_sums", "_law_j", "_law_item", "_law_k"] ["_law_rows_here", "_law_integers"] (defScope s_law_is_refusal) := ⟨rfl, rfl, rfl, by decide +kernel, rfl, by decide +kernel, by decide +kernel⟩
theorem ok_law_is_refusal (B : Bs K mg W) (hW : W.rc.xa = none) (d : Dn K mg "_law_is_refusal" "_law_is_refusal" s_law_is_refusal ["_law_rows_here", "_law_integers"])  : Cal P w K mg base W "_law_is_refusal" 1 (fun a : ((List (List Int)) × (List Int) × Unit) => f_law_is_refusal a.1 a.2.1) .frz :=
  cal d sc_law_is_refusal fun fa cdv Ar outer sh H E hr a => by
    have nd := sc_law_is_refusal.nd
    obtain ⟨rows1, integers2, _⟩ := a
    exact (show VB (cxOf (L2.CX P w) P w K mg base ["_law_rows_here", "_law_integers", "_law_width", "_law_sums", "_law_j", "_law_item", "_law_k"] "_law_is_refusal" (defScope s_law_is_refusal) fa cdv Ar outer sh H E) W (fun _ => E) (argE 0 [en rows1, en integers2]) (defBody s_law_is_refusal) (f_law_is_refusal rows1 integers2) (rtOut .frz) from
  (vb_ifA (vt_w (vw_orP (vt_eq (t' := (R.ok (decide ((integers2.length : Int) ≠ (rows1.length : Int))))) (vt_cmp (op_neA hr.room.units) o2_ne cNe (hNe) (ve_ca ca_len gLen hLen (pe_callB call_len_seq (by rfl) (B.bi "len" (by decide)) (by decide +kernel) (va_cons (ve_v (pv 1) rfl) va_nil))) (ve_ca ca_len gLen hLen (pe_callB call_len_seq (by rfl) (B.bi "len" (by decide)) (by decide +kernel) (va_cons (ve_v (pv 0) rfl) va_nil))) (nomark _)) (by rfl)) (vw_or1 (vt_eq (t' := (R.ok ((integers2.map (fun v3 : Int => (decide (v3 < (0 : Int))))).any id))) (vt_val (ve_ca ca_any gAny hAny (pe_callB (cr_any rfl) (by rfl) (B.bi "any" (by decide)) (by decide +kernel) (va_cons (ve_frz (te_lc (own := [("_law_item", 5)]) (g := (gN 5)) lcP rfl nd (vi_list (ve_v (pv 1) rfl)) (blkOk_by (N := ["_law_rows_here", "_law_integers", "_law_width", "_law_sums", "_law_j", "_law_item", "_law_k"]) (sc := defScope s_law_is_refusal) (by decide +kernel)) (fun _ _ _ _ _ => (vg_name (pg_name (i := 5) nd rfl (by first | exact Or.inl rfl | exact Or.inr rfl)))) (fun _ => rfl) (fun (v3 : Int) _ _ _ _ _ => vts_nil) (fun (v3 : Int) _ _ _ _ _ => (ve_eq (m' := (R.ok (decide (v3 < (0 : Int))))) (ve_cmp op_lt o2_lt cLt hLt (ve_v (pv 5) rfl) ve_int (nomark _)) (by rfl))))) va_nil)))) (by rfl)))))
  (vb_retP (x := false) (ps_ret (ve_eq (m' := (R.ok false)) ve_bl (by rfl))))
  (vb_set (ps_set (i := 2) nd rfl (by first | exact Or.inl rfl | exact Or.inr rfl) (ve_eq (m' := (R.ok (1 : Int))) ve_int (by rfl))) fun width4 =>
  (vb_ifJ (eJ := (fun s5 : Int => (se (se (se e0 0 (.vl .fz (en rows1))) 1 (.vl .fz (en integers2))) 2 (.vl .fz (en s5))))) (vt_eq (t' := (R.ok (decide ((0 : Int) < (rows1.length : Int))))) (vt_cmp op_gt o2_gt cGt hGt (ve_ca ca_len gLen hLen (pe_callB call_len_seq (by rfl) (B.bi "len" (by decide)) (by decide +kernel) (va_cons (ve_v (pv 0) rfl) va_nil))) ve_int (nomark _)) (by rfl))
  (vb_set (ps_set (i := 2) nd rfl (by first | exact Or.inl rfl | exact Or.inr rfl) (ve_eq (m' := ((ixR rows1 (0 : Int)).bind fun x6 => R.ok (x6.length : Int))) (ve_ca ca_len gLen hLen (pe_callB call_len_seq (by rfl) (B.bi "len" (by decide)) (by decide +kernel) (va_cons (te_ixL (ve_v (pv 0) rfl) ve_int) va_nil))) (by first | with_reducible rfl | simp only [R.bind_eta, R.bind_assoc, R.okb, R.exb, R.nob, R.map_eq, q_gInt, q_gIntB, q_gLen, q_gLenT, q_gLenN, q_gAbs, q_gMax2, q_gMin2, q_gGcd, q_gSum, q_gAny, q_gAnyI, q_gMaxL, q_gLenF, q_cIsB, q_cNotB, q_gAll, q_gList, q_gListT, q_gTuple, q_gSorted, q_gSortedT, q_gRepr, q_cLt, q_cLe, q_cGt, q_cGe, q_cEq, q_cNe, q_cEqS, q_cNeS, q_cEqR, q_cNeR, q_cIsN, q_cIsS, q_cIn, q_cNi, q_cInR, q_cNiR, q_cInT, q_cNiT] | rfl))) fun width7 =>
  (vb_nil (b := width7) rfl (Le.se (Le.se (Le.se Le.e0 rfl) rfl) rfl)))
  (vb_nil (b := width4) rfl (Le.se (Le.se (Le.se Le.e0 rfl) rfl) rfl))
  fun s5 => (vb_set (ps_eqm (m' := ((rng1 s5).bind fun x15 => (noX (mapR (fun v8 : Int => (((rng1 (rows1.length : Int)).bind fun x13 => (noX (mapR (fun v9 : Int => ((ixR integers2 v9).bind fun x11 => ((ixR rows1 v9).bind fun x10 => (ixR x10 v8)).bind fun x12 => (mulR x11 x12))) x13))).bind fun x14 => R.ok x14.sum)) x15)))) (ps_frz (ts_lc (i := 3) (own := [("_law_j", 4)]) (g := (gN 4)) lcM rfl nd rfl rfl (sw_true rfl rfl rfl (by decide +kernel)) (vi_rng1 (by rfl) (B.bi "range" (by decide)) (va_cons (ve_v (pv 2) rfl) va_nil)) (blkOk_by (N := ["_law_rows_here", "_law_integers", "_law_width", "_law_sums", "_law_j", "_law_item", "_law_k"]) (sc := defScope s_law_is_refusal) (by decide +kernel)) (fun _ _ _ _ _ => (vg_name (pg_name (i := 4) nd rfl (by first | exact Or.inl rfl | exact Or.inr rfl)))) (fun _ => rfl) (fun (v8 : Int) _ _ _ _ _ => vts_nil) (fun (v8 : Int) _ _ _ _ _ => (ve_eq (m' := (((rng1 (rows1.length : Int)).bind fun x13 => (noX (mapR (fun v9 : Int => ((ixR integers2 v9).bind fun x11 => ((ixR rows1 v9).bind fun x10 => (ixR x10 v8)).bind fun x12 => (mulR x11 x12))) x13))).bind fun x14 => R.ok x14.sum)) (ve_ca ca_sum gSum hSum (pe_callB (cr_sum rfl) (by rfl) (B.bi "sum" (by decide)) (by decide +kernel) (va_cons (ve_frz (te_lc (own := [("_law_k", 6)]) (g := (gN 6)) lcM rfl nd (vi_rng1 (by rfl) (B.bi "range" (by decide)) (va_cons (ve_ca ca_len gLen hLen (pe_callB call_len_seq (by rfl) (B.bi "len" (by decide)) (by decide +kernel) (va_cons (ve_v (pv 0) rfl) va_nil))) va_nil)) (blkOk_by (by rfl)) (fun _ _ _ _ _ => (vg_name (pg_name (i := 6) nd rfl (by first | exact Or.inl rfl | exact Or.inr rfl)))) (fun _ => rfl) (fun (v9 : Int) _ _ _ _ _ => vts_nil) (fun (v9 : Int) _ _ _ _ _ => (ve_eq (m' := ((ixR integers2 v9).bind fun x11 => ((ixR rows1 v9).bind fun x10 => (ixR x10 v8)).bind fun x12 => (mulR x11 x12))) (te_mul (te_ixL (ve_v (pv 1) rfl) (ve_v (pv 6) rfl)) (te_ixL (te_ixL (ve_v (pv 0) rfl) (ve_v (pv 6) rfl)) (ve_v (pv 4) rfl))) (by first | with_reducible rfl | simp only [R.bind_eta, R.bind_assoc, R.okb, R.exb, R.nob, R.map_eq, q_gInt, q_gIntB, q_gLen, q_gLenT, q_gLenN, q_gAbs, q_gMax2, q_gMin2, q_gGcd, q_gSum, q_gAny, q_gAnyI, q_gMaxL, q_gLenF, q_cIsB, q_cNotB, q_gAll, q_gList, q_gListT, q_gTuple, q_gSorted, q_gSortedT, q_gRepr, q_cLt, q_cLe, q_cGt, q_cGe, q_cEq, q_cNe, q_cEqS, q_cNeS, q_cEqR, q_cNeR, q_cIsN, q_cIsS, q_cIn, q_cNi, q_cInR, q_cNiR, q_cInT, q_cNiT] | rfl))))) va_nil))) (by first | with_reducible rfl | simp only [R.bind_eta, R.bind_assoc, R.okb, R.exb, R.nob, R.map_eq, q_gInt, q_gIntB, q_gLen, q_gLenT, q_gLenN, q_gAbs, q_gMax2, q_gMin2, q_gGcd, q_gSum, q_gAny, q_gAnyI, q_gMaxL, q_gLenF, q_cIsB, q_cNotB, q_gAll, q_gList, q_gListT, q_gTuple, q_gSorted, q_gSortedT, q_gRepr, q_cLt, q_cLe, q_cGt, q_cGe, q_cEq, q_cNe, q_cEqS, q_cNeS, q_cEqR, q_cNeR, q_cIsN, q_cIsS, q_cIn, q_cNi, q_cInR, q_cNiR, q_cInT, q_cNiT] | rfl))))) (by first | with_reducible rfl | simp only [R.bind_eta, R.bind_assoc, R.okb, R.exb, R.nob, R.map_eq, q_gInt, q_gIntB, q_gLen, q_gLenT, q_gLenN, q_gAbs, q_gMax2, q_gMin2, q_gGcd, q_gSum, q_gAny, q_gAnyI, q_gMaxL, q_gLenF, q_cIsB, q_cNotB, q_gAll, q_gList, q_gListT, q_gTuple, q_gSorted, q_gSortedT, q_gRepr, q_cLt, q_cLe, q_cGt, q_cGe, q_cEq, q_cNe, q_cEqS, q_cNeS, q_cEqR, q_cNeR, q_cIsN, q_cIsS, q_cIn, q_cNi, q_cInR, q_cNiR, q_cInT, q_cNiT] | rfl)) fun sums16 =>
  (vb_ret0 (ps_ret (ve_eq (m' := (andR ((ixR sums16 (0 : Int)).bind fun x17 => R.ok (decide (x17 < (0 : Int)))) (R.ok (!((cutL sums16 (some (1 : Int)) none).any fun y => y != 0))))) (ve_and (ve_eq (m' := ((ixR sums16 (0 : Int)).bind fun x17 => R.ok (decide (x17 < (0 : Int))))) (ve_cmp op_lt o2_lt cLt hLt (te_ixL (ve_v (pv 3) rfl) ve_int) ve_int (nomark _)) (by first | with_reducible rfl | simp only [R.bind_eta, R.bind_assoc, R.okb, R.exb, R.nob, R.map_eq, q_gInt, q_gIntB, q_gLen, q_gLenT, q_gLenN, q_gAbs, q_gMax2, q_gMin2, q_gGcd, q_gSum, q_gAny, q_gAnyI, q_gMaxL, q_gLenF, q_cIsB, q_cNotB, q_gAll, q_gList, q_gListT, q_gTuple, q_gSorted, q_gSortedT, q_gRepr, q_cLt, q_cLe, q_cGt, q_cGe, q_cEq, q_cNe, q_cEqS, q_cNeS, q_cEqR, q_cNeR, q_cIsN, q_cIsS, q_cIn, q_cNi, q_cInR, q_cNiR, q_cInT, q_cNiT] | rfl)) (ve_one (ve_eq (m' := (R.ok (!((cutL sums16 (some (1 : Int)) none).any fun y => y != 0)))) (ve_not (ve_eq (m' := R.ok ((cutL sums16 (some (1 : Int)) none).any fun y => y != 0)) (ve_ca ca_anyI gAnyI hAnyI (pe_callB (cr_anyI rfl) (by rfl) (B.bi "any" (by decide)) (by decide +kernel) (va_cons (ve_frz (vn_sl (ve_v (pv 3) rfl) (vo_some ve_int) vo_none)) va_nil))) (by rfl))) (by rfl)))) (by first | with_reducible rfl | simp only [R.bind_eta, R.bind_assoc, R.okb, R.exb, R.nob, R.map_eq, q_gInt, q_gIntB, q_gLen, q_gLenT, q_gLenN, q_gAbs, q_gMax2, q_gMin2, q_gGcd, q_gSum, q_gAny, q_gAnyI, q_gMaxL, q_gLenF, q_cIsB, q_cNotB, q_gAll, q_gList, q_gListT, q_gTuple, q_gSorted, q_gSortedT, q_gRepr, q_cLt, q_cLe, q_cGt, q_cGe, q_cEq, q_cNe, q_cEqS, q_cNeS, q_cEqR, q_cNeR, q_cIsN, q_cIsS, q_cIn, q_cNi, q_cInR, q_cNiR, q_cInT, q_cNiT] | rfl)))))))))

abbrev s_law_refused : Stmt := topS 24
theorem sc_law_refused : FnScope ["_law_rows_here", "_law_count", "_law_before", "e", "_law_good"] ["_law_rows_here", "_law_count"] (defScope s_law_refused) := ⟨rfl, rfl, rfl, by decide +kernel, rfl, by decide +kernel, by decide +kernel⟩
theorem ok_law_refused (B : Bs K mg W) (hW : W.rc.xa = none) (d : Dn K mg "_law_refused" "_law_refused" s_law_refused ["_law_rows_here", "_law_count"]) (c_solve : Cal P w K mg base W "solve" 4 (fun a : ((List (List Int)) × Int × Unit) => f_solve a.1 a.2.1) (.tup (.lst .frz))) : Cal P w K mg base W "_law_refused" 5 (fun a : ((List (List Int)) × Int × Unit) => f_law_refused a.1 a.2.1) .frz :=
  cal d sc_law_refused fun fa cdv Ar outer sh H E hr a => by
    have nd := sc_law_refused.nd
    obtain ⟨rows1, count2, _⟩ := a
    exact (show VB (cxOf (L2.CX P w) P w K mg base ["_law_rows_here", "_law_count", "_law_before", "e", "_law_good"] "_law_refused" (defScope s_law_refused) fa cdv Ar outer sh H E) W (fun _ => E) (argE 0 [en rows1, en count2]) (defBody s_law_refused) (f_law_refused rows1 count2) (rtOut .frz) from
  (vb_set (ps_set (i := 2) nd rfl (by first | exact Or.inl rfl | exact Or.inr rfl) (ve_eq (m' := (reprR (en rows1))) (ve_ca ca_repr gRepr hRepr (pe_callB (cr_repr hr.gds hr.rep) (by rfl) (B.bi "repr" (by decide)) (by decide +kernel) (va_cons (ve_v (pv 0) rfl) va_nil))) (by first | with_reducible rfl | simp only [R.bind_eta, R.bind_assoc, R.okb, R.exb, R.nob, R.map_eq, q_gInt, q_gIntB, q_gLen, q_gLenT, q_gLenN, q_gAbs, q_gMax2, q_gMin2, q_gGcd, q_gSum, q_gAny, q_gAnyI, q_gMaxL, q_gLenF, q_cIsB, q_cNotB, q_gAll, q_gList, q_gListT, q_gTuple, q_gSorted, q_gSortedT, q_gRepr, q_cLt, q_cLe, q_cGt, q_cGe, q_cEq, q_cNe, q_cEqS, q_cNeS, q_cEqR, q_cNeR, q_cIsN, q_cIsS, q_cIn, q_cNi, q_cInR, q_cNiR, q_cInT, q_cNiT] | rfl))) fun before3 =>
  (vb_tryAs (n := 3) (i := 3) (fun Wx pn xe tk => (ve_eq (m' := (f_solve rows1 count2)) (ve_frz (ve_call c_solve hr (pass_try tk) (va_cons (ve_v (pv 0) rfl) (va_cons (ve_v (pv 1) rfl) va_nil)))) (by first | with_reducible rfl | simp only [R.bind_eta, R.bind_assoc, R.okb, R.exb, R.nob, R.map_eq, q_gInt, q_gIntB, q_gLen, q_gLenT, q_gLenN, q_gAbs, q_gMax2, q_gMin2, q_gGcd, q_gSum, q_gAny, q_gAnyI, q_gMaxL, q_gLenF, q_cIsB, q_cNotB, q_gAll, q_gList, q_gListT, q_gTuple, q_gSorted, q_gSortedT, q_gRepr, q_cLt, q_cLe, q_cGt, q_cGe, q_cEq, q_cNe, q_cEqS, q_cNeS, q_cEqR, q_cNeR, q_cIsN, q_cIsS, q_cIn, q_cNi, q_cInR, q_cNiR, q_cInT, q_cNiT] | rfl)))
  (fun a oe pn hz hf =>
  (vb_set (ps_set (i := 4) nd rfl (by first | exact Or.inl rfl | exact Or.inr rfl) (ve_eq (m' := (R.ok (true && (true && (!false))))) (ve_andP (ve_eq (m' := (R.ok true)) (ve_isE (pe_callB (call_isE B.c_OutOfRange hz hf) (by rfl) (B.bi "isinstance" (by decide)) (by decide +kernel) (pa_cons (pv 3) (pa_cons (pe_glob (v := .ref (W.ea 0)) (by rfl) B.x_LightError.g rfl) pa_nil))) rfl (fun _ z => z) B.i_OutOfRange_LightError) (by rfl)) (ve_andP (ve_eq (m' := (R.ok true)) (ve_isE (pe_callB (call_isE B.c_OutOfRange hz hf) (by rfl) (B.bi "isinstance" (by decide)) (by decide +kernel) (pa_cons (pv 3) (pa_cons (pe_bltn (v := .ty "ValueError") (by rfl) (B.bi "ValueError" (by decide)) (by decide +kernel) rfl) pa_nil))) rfl (fun _ z => z) B.i_OutOfRange_ValueError) (by rfl)) (ve_one (ve_eq (m' := (R.ok (!false))) (ve_not (ve_eq (m' := R.ok false) (ve_isE (pe_callB (call_isE B.c_OutOfRange hz hf) (by rfl) (B.bi "isinstance" (by decide)) (by decide +kernel) (pa_cons (pv 3) (pa_cons (pe_glob (v := .ref (W.ea 1)) (by rfl) B.x_BadNet.g rfl) pa_nil))) rfl (fun _ z => z) B.i_OutOfRange_BadNet) (by rfl))) (by rfl))))) (by rfl))) fun good4 =>
  (vb_ret0 (ps_ret (ve_eq (m' := (andR (R.ok good4) ((reprR (en rows1)).bind fun x5 => R.ok (decide (x5 = before3))))) (ve_and (ve_eq (m' := (R.ok good4)) (ve_v (pv 4) rfl) (by rfl)) (ve_one (ve_eq (m' := ((reprR (en rows1)).bind fun x5 => R.ok (decide (x5 = before3)))) (ve_cmp (op_eqA hr.room.units) o2_eq cEqS hEqS (ve_ca ca_repr gRepr hRepr (pe_callB (cr_repr hr.gds hr.rep) (by rfl) (B.bi "repr" (by decide)) (by decide +kernel) (va_cons (ve_v (pv 0) rfl) va_nil))) (ve_v (pv 2) rfl) (nomark _)) (by first | with_reducible rfl | simp only [R.bind_eta, R.bind_assoc, R.okb, R.exb, R.nob, R.map_eq, q_gInt, q_gIntB, q_gLen, q_gLenT, q_gLenN, q_gAbs, q_gMax2, q_gMin2, q_gGcd, q_gSum, q_gAny, q_gAnyI, q_gMaxL, q_gLenF, q_cIsB, q_cNotB, q_gAll, q_gList, q_gListT, q_gTuple, q_gSorted, q_gSortedT, q_gRepr, q_cLt, q_cLe, q_cGt, q_cGe, q_cEq, q_cNe, q_cEqS, q_cNeS, q_cEqR, q_cNeR, q_cIsN, q_cIsS, q_cIn, q_cNi, q_cInR, q_cNiR, q_cInT, q_cNiT] | rfl)))) (by first | with_reducible rfl | simp only [R.bind_eta, R.bind_assoc, R.okb, R.exb, R.nob, R.map_eq, q_gInt, q_gIntB, q_gLen, q_gLenT, q_gLenN, q_gAbs, q_gMax2, q_gMin2, q_gGcd, q_gSum, q_gAny, q_gAnyI, q_gMaxL, q_gLenF, q_cIsB, q_cNotB, q_gAll, q_gList, q_gListT, q_gTuple, q_gSorted, q_gSortedT, q_gRepr, q_cLt, q_cLe, q_cGt, q_cGe, q_cEq, q_cNe, q_cEqS, q_cNeS, q_cEqR, q_cNeR, q_cIsN, q_cIsS, q_cIn, q_cNi, q_cInR, q_cNiR, q_cInT, q_cNiT] | rfl))))))
  (vb_retP (x := false) (ps_ret (ve_eq (m' := (R.ok false)) ve_bl (by rfl)))) B.x_OutOfRange.g hW B.e_OutOfRange_OutOfRange nd)))

abbrev s_law_rows : Stmt := topS 25
theorem sc_law_rows : FnScope ["_law_cell_here", "_law_more", "_law_count", "_law_draws_here", "_law_rows_here", "_law_parts", "_law_k", "_law_size", "_law_part", "_law_row", "_law_item"] ["_law_cell_here", "_law_more", "_law_count"] (defScope s_law_rows) := ⟨rfl, rfl, rfl, by decide +kernel, rfl, by decide +kernel, by decide +kernel⟩
theorem ok_law_rows (B : Bs K mg W) (hW : W.rc.xa = none) (d : Dn K mg "_law_rows" "_law_rows" s_law_rows ["_law_cell_here", "_law_more", "_law_count"]) (c_law_draws : Cal P w K mg base W "_law_draws" 1 (fun a : (Int × (List Int) × Unit) => f_law_draws a.1 a.2.1) (.lst .frz)) : Cal P w K mg base W "_law_rows" 2 (fun a : (Int × Int × Int × Unit) => f_law_rows a.1 a.2.1 a.2.2.1) .frz :=
  cal d sc_law_rows fun fa cdv Ar outer sh H E hr a => by
    have nd := sc_law_rows.nd
    obtain ⟨cell1, more2, count3, _⟩ := a
    exact (show VB (cxOf (L2.CX P w) P w K mg base ["_law_cell_here", "_law_more", "_law_count", "_law_draws_here", "_law_rows_here", "_law_parts", "_law_k", "_law_size", "_law_part", "_law_row", "_law_item"] "_law_rows" (defScope s_law_rows) fa cdv Ar outer sh H E) W (fun _ => E) (argE 0 [en cell1, en more2, en count3]) (defBody s_law_rows) (f_law_rows cell1 more2 count3) (rtOut .frz) from
  (vb_set (ps_set (i := 3) nd rfl (by first | exact Or.inl rfl | exact Or.inr rfl) (ve_eq (m' := (((powR (10 : Int) (9 : Int)).bind fun x4 => R.ok ([(9 : Int), (5 : Int), x4] : List Int)).bind fun x5 => (f_law_draws cell1 x5))) (ve_frz (ve_call c_law_draws hr (pass_fn (takes_of rfl rfl rfl rfl)) (va_cons (ve_v (pv 0) rfl) (va_cons (ve_frz (ve_lst (s := .frz) (fun (x : (Int × Int × Int × Unit)) => ([x.1, x.2.1, x.2.2.1] : List Int)) (va_cons ve_int (va_cons ve_int (va_cons (te_pow ve_int ve_int) va_nil))))) va_nil)))) (by first | with_reducible rfl | simp only [R.bind_eta, R.bind_assoc, R.okb, R.exb, R.nob, R.map_eq, q_gInt, q_gIntB, q_gLen, q_gLenT, q_gLenN, q_gAbs, q_gMax2, q_gMin2, q_gGcd, q_gSum, q_gAny, q_gAnyI, q_gMaxL, q_gLenF, q_cIsB, q_cNotB, q_gAll, q_gList, q_gListT, q_gTuple, q_gSorted, q_gSortedT, q_gRepr, q_cLt, q_cLe, q_cGt, q_cGe, q_cEq, q_cNe, q_cEqS, q_cNeS, q_cEqR, q_cNeR, q_cIsN, q_cIsS, q_cIn, q_cNi, q_cInR, q_cNiR, q_cInT, q_cNiT] | rfl))) fun draws6 =>
  (vb_setN (ps_set (i := 4) nd rfl (by first | exact Or.inl rfl | exact Or.inr rfl) (ve_eq (m' := (R.ok ([] : List (List Int)))) (ve_lst (s := .frz) (fun (x : (Unit)) => ([] : List (List Int))) va_nil) (by rfl))) fun rows7 =>
  (vb_set (ps_set (i := 5) nd rfl (by first | exact Or.inl rfl | exact Or.inr rfl) (ve_eq (m' := ((((powR (10 : Int) (9 : Int)).bind fun x8 => R.ok ([x8] : List Int)).bind fun x9 => (repR x9 (9 : Int))).bind fun x10 => (f_law_draws more2 x10))) (ve_frz (ve_call c_law_draws hr (pass_fn (takes_of rfl rfl rfl rfl)) (va_cons (ve_v (pv 1) rfl) (va_cons (ve_frz (te_rep (ve_frz (ve_lst (s := .frz) (fun (x : (Int × Unit)) => ([x.1] : List Int)) (va_cons (te_pow ve_int ve_int) va_nil))) ve_int)) va_nil)))) (by first | with_reducible rfl | simp only [R.bind_eta, R.bind_assoc, R.okb, R.exb, R.nob, R.map_eq, q_gInt, q_gIntB, q_gLen, q_gLenT, q_gLenN, q_gAbs, q_gMax2, q_gMin2, q_gGcd, q_gSum, q_gAny, q_gAnyI, q_gMaxL, q_gLenF, q_cIsB, q_cNotB, q_gAll, q_gList, q_gListT, q_gTuple, q_gSorted, q_gSortedT, q_gRepr, q_cLt, q_cLe, q_cGt, q_cGe, q_cEq, q_cNe, q_cEqS, q_cNeS, q_cEqR, q_cNeR, q_cIsN, q_cIsS, q_cIn, q_cNi, q_cInR, q_cNiR, q_cInT, q_cNiT] | rfl))) fun parts11 =>
  (tb_for (f := (f_law_rows_l1 count3 draws6 parts11)) (e := (fun s1 : (List (List Int)) => (se (se (se (se e0 2 (.vl .fz (en count3))) 3 (.vl .fz (en draws6))) 4 (.vl (.ow (.lst .frz) none) (en s1))) 5 (.vl .fz (en parts11))))) (s0 := rows7) (g := (gN 6)) (fun _ _ => rfl) (passes_of rfl) rfl (vi_eqm (m' := ((ixR draws6 (0 : Int)).bind fun x12 => (rng1 x12))) (vi_rng1 (by rfl) (B.bi "range" (by decide)) (va_cons (te_ixL (ve_v (pv 3) rfl) ve_int) va_nil)) (by first | with_reducible rfl | simp only [R.bind_eta, R.bind_assoc, R.okb, R.exb, R.nob, R.map_eq, q_gInt, q_gIntB, q_gLen, q_gLenT, q_gLenN, q_gAbs, q_gMax2, q_gMin2, q_gGcd, q_gSum, q_gAny, q_gAnyI, q_gMaxL, q_gLenF, q_cIsB, q_cNotB, q_gAll, q_gList, q_gListT, q_gTuple, q_gSorted, q_gSortedT, q_gRepr, q_cLt, q_cLe, q_cGt, q_cGe, q_cEq, q_cNe, q_cEqS, q_cNeS, q_cEqR, q_cNeR, q_cIsN, q_cIsS, q_cIn, q_cNi, q_cInR, q_cNiR, q_cInT, q_cNiT] | rfl)) (vg_name (pg_name (i := 6) nd rfl (by first | exact Or.inl rfl | exact Or.inr rfl))) (Le.se (Le.se (Le.se (Le.se Le.e0 rfl) rfl) rfl) rfl)
  (fun x1_ s1 => (vb_set (ps_set (i := 7) nd rfl (by first | exact Or.inl rfl | exact Or.inr rfl) (ve_eq (m' := ((((powR (10 : Int) (12 : Int)).bind fun x17 => (mulR (2 : Int) x17)).bind fun x18 => R.ok ([(3 : Int), (4 : Int), (7 : Int), (2001 : Int), x18] : List Int)).bind fun x19 => (ixR draws6 (1 : Int)).bind fun x20 => (ixR x19 x20))) (te_ixL (ve_frz (ve_lst (s := .frz) (fun (x : (Int × Int × Int × Int × Int × Unit)) => ([x.1, x.2.1, x.2.2.1, x.2.2.2.1, x.2.2.2.2.1] : List Int)) (va_cons ve_int (va_cons ve_int (va_cons ve_int (va_cons ve_int (va_cons (te_mul ve_int (te_pow ve_int ve_int)) va_nil))))))) (te_ixL (ve_v (pv 3) rfl) ve_int)) (by first | with_reducible rfl | simp only [R.bind_eta, R.bind_assoc, R.okb, R.exb, R.nob, R.map_eq, q_gInt, q_gIntB, q_gLen, q_gLenT, q_gLenN, q_gAbs, q_gMax2, q_gMin2, q_gGcd, q_gSum, q_gAny, q_gAnyI, q_gMaxL, q_gLenF, q_cIsB, q_cNotB, q_gAll, q_gList, q_gListT, q_gTuple, q_gSorted, q_gSortedT, q_gRepr, q_cLt, q_cLe, q_cGt, q_cGe, q_cEq, q_cNe, q_cEqS, q_cNeS, q_cEqR, q_cNeR, q_cIsN, q_cIsS, q_cIn, q_cNi, q_cInR, q_cNiR, q_cInT, q_cNiT] | rfl))) fun size21 =>
  (vb_set (ps_set (i := 8) nd rfl (by first | exact Or.inl rfl | exact Or.inr rfl) (ve_eq (m' := ((ixR parts11 x1_).bind fun x23 => ((repR ([size21] : List Int) ((1 : Int) + count3)).bind fun x22 => (catR ([(6 : Int)] : List Int) x22)).bind fun x24 => (f_law_draws x23 x24))) (ve_frz (ve_call c_law_draws hr (pass_fn (takes_of rfl rfl rfl rfl)) (va_cons (te_ixL (ve_v (pv 5) rfl) (ve_v (pv 6) rfl)) (va_cons (ve_frz (te_cat (ve_frz (ve_lst (s := .frz) (fun (x : (Int × Unit)) => ([x.1] : List Int)) (va_cons ve_int va_nil))) (ve_frz (te_rep (ve_frz (ve_lst (s := .frz) (fun (x : (Int × Unit)) => ([x.1] : List Int)) (va_cons (ve_v (pv 7) rfl) va_nil))) (te_add ve_int (ve_v (pv 2) rfl)))))) va_nil)))) (by first | with_reducible rfl | simp only [R.bind_eta, R.bind_assoc, R.okb, R.exb, R.nob, R.map_eq, q_gInt, q_gIntB, q_gLen, q_gLenT, q_gLenN, q_gAbs, q_gMax2, q_gMin2, q_gGcd, q_gSum, q_gAny, q_gAnyI, q_gMaxL, q_gLenF, q_cIsB, q_cNotB, q_gAll, q_gList, q_gListT, q_gTuple, q_gSorted, q_gSortedT, q_gRepr, q_cLt, q_cLe, q_cGt, q_cGe, q_cEq, q_cNe, q_cEqS, q_cNeS, q_cEqR, q_cNeR, q_cIsN, q_cIsS, q_cIn, q_cNi, q_cInR, q_cNiR, q_cInT, q_cNiT] | rfl))) fun part25 =>
  (vb_set (ps_eqm (m' := (noX (mapR (fun v26 : Int => ((divR size21 (2 : Int)).bind fun x27 => R.ok (v26 - x27))) (cutL part25 (some (1 : Int)) none)))) (ps_frz (ts_lc (i := 9) (own := [("_law_item", 10)]) (g := (gN 10)) lcM rfl nd rfl rfl (sw_true rfl rfl rfl (by decide +kernel)) (vi_list (ve_frz (vn_sl (ve_v (pv 8) rfl) (vo_some ve_int) vo_none))) (blkOk_by (N := ["_law_cell_here", "_law_more", "_law_count", "_law_draws_here", "_law_rows_here", "_law_parts", "_law_k", "_law_size", "_law_part", "_law_row", "_law_item"]) (sc := defScope s_law_rows) (by decide +kernel)) (fun _ _ _ _ _ => (vg_name (pg_name (i := 10) nd rfl (by first | exact Or.inl rfl | exact Or.inr rfl)))) (fun _ => rfl) (fun (v26 : Int) _ _ _ _ _ => vts_nil) (fun (v26 : Int) _ _ _ _ _ => (ve_eq (m' := ((divR size21 (2 : Int)).bind fun x27 => R.ok (v26 - x27))) (te_sub (ve_v (pv 10) rfl) (te_div (ve_v (pv 7) rfl) ve_int)) (by first | with_reducible rfl | simp only [R.bind_eta, R.bind_assoc, R.okb, R.exb, R.nob, R.map_eq, q_gInt, q_gIntB, q_gLen, q_gLenT, q_gLenN, q_gAbs, q_gMax2, q_gMin2, q_gGcd, q_gSum, q_gAny, q_gAnyI, q_gMaxL, q_gLenF, q_cIsB, q_cNotB, q_gAll, q_gList, q_gListT, q_gTuple, q_gSorted, q_gSortedT, q_gRepr, q_cLt, q_cLe, q_cGt, q_cGe, q_cEq, q_cNe, q_cEqS, q_cNeS, q_cEqR, q_cNeR, q_cIsN, q_cIsS, q_cIn, q_cNi, q_cInR, q_cNiR, q_cInT, q_cNiT] | rfl))))) (by first | with_reducible rfl | simp only [R.bind_eta, R.bind_assoc, R.okb, R.exb, R.nob, R.map_eq, q_gInt, q_gIntB, q_gLen, q_gLenT, q_gLenN, q_gAbs, q_gMax2, q_gMin2, q_gGcd, q_gSum, q_gAny, q_gAnyI, q_gMaxL, q_gLenF, q_cIsB, q_cNotB, q_gAll, q_gList, q_gListT, q_gTuple, q_gSorted, q_gSortedT, q_gRepr, q_cLt, q_cLe, q_cGt, q_cGe, q_cEq, q_cNe, q_cEqS, q_cNeS, q_cEqR, q_cNeR, q_cIsN, q_cIsS, q_cIn, q_cNi, q_cInR, q_cNiR, q_cInT, q_cNiT] | rfl)) fun row28 =>
  (vb_ifJ (eJ := (fun s30 : (List Int) => (se (se (se (se (se (se e0 2 (.vl .fz (en count3))) 3 (.vl .fz (en draws6))) 4 (.vl (.ow (.lst .frz) none) (en s1))) 5 (.vl .fz (en parts11))) 8 (.vl .fz (en part25))) 9 (.vl .fz (en s30))))) (vt_w (vw_and (vt_eq (t' := ((ixR part25 (0 : Int)).bind fun x29 => R.ok (decide (x29 = (0 : Int))))) (vt_cmp (op_eqA hr.room.units) o2_eq cEq (hEq) (te_ixL (ve_v (pv 8) rfl) ve_int) ve_int (nomark _)) (by first | with_reducible rfl | simp only [R.bind_eta, R.bind_assoc, R.okb, R.exb, R.nob, R.map_eq, q_gInt, q_gIntB, q_gLen, q_gLenT, q_gLenN, q_gAbs, q_gMax2, q_gMin2, q_gGcd, q_gSum, q_gAny, q_gAnyI, q_gMaxL, q_gLenF, q_cIsB, q_cNotB, q_gAll, q_gList, q_gListT, q_gTuple, q_gSorted, q_gSortedT, q_gRepr, q_cLt, q_cLe, q_cGt, q_cGe, q_cEq, q_cNe, q_cEqS, q_cNeS, q_cEqR, q_cNeR, q_cIsN, q_cIsS, q_cIn, q_cNi, q_cInR, q_cNiR, q_cInT, q_cNiT] | rfl)) (vw_and1 (vt_eq (t' := (R.ok (decide ((0 : Int) < (s1.length : Int))))) (vt_cmp op_gt o2_gt cGt hGt (ve_sc (ve_ca ca_len gLen hLen (pe_callB call_len_seq (by rfl) (B.bi "len" (by decide)) (by decide +kernel) (va_cons (ve_v (pv 4) rfl) va_nil)))) ve_int (nomark _)) (by rfl)))))
  (vb_set (ps_eqm (m' := ((ixR s1 (-(1 : Int))).bind fun x32 => R.ok (x32.map (fun v31 : Int => (-v31))))) (ps_frz (ts_lc (i := 9) (own := [("_law_item", 10)]) (g := (gN 10)) lcP rfl nd rfl rfl (sw_true rfl rfl rfl (by decide +kernel)) (vi_list (ve_r (b0 := false) (vr_ix (vr_v (s := (.lst .frz)) (x := s1) (pv 4) rfl) (te_neg ve_int)))) (blkOk_by (N := ["_law_cell_here", "_law_more", "_law_count", "_law_draws_here", "_law_rows_here", "_law_parts", "_law_k", "_law_size", "_law_part", "_law_row", "_law_item"]) (sc := defScope s_law_rows) (by decide +kernel)) (fun _ _ _ _ _ => (vg_name (pg_name (i := 10) nd rfl (by first | exact Or.inl rfl | exact Or.inr rfl)))) (fun _ => rfl) (fun (v31 : Int) _ _ _ _ _ => vts_nil) (fun (v31 : Int) _ _ _ _ _ => (ve_eq (m' := (R.ok (-v31))) (te_neg (ve_v (pv 10) rfl)) (by rfl))))) (by first | with_reducible rfl | simp only [R.bind_eta, R.bind_assoc, R.okb, R.exb, R.nob, R.map_eq, q_gInt, q_gIntB, q_gLen, q_gLenT, q_gLenN, q_gAbs, q_gMax2, q_gMin2, q_gGcd, q_gSum, q_gAny, q_gAnyI, q_gMaxL, q_gLenF, q_cIsB, q_cNotB, q_gAll, q_gList, q_gListT, q_gTuple, q_gSorted, q_gSortedT, q_gRepr, q_cLt, q_cLe, q_cGt, q_cGe, q_cEq, q_cNe, q_cEqS, q_cNeS, q_cEqR, q_cNeR, q_cIsN, q_cIsS, q_cIn, q_cNi, q_cInR, q_cNiR, q_cInT, q_cNiT] | rfl)) fun row33 =>
  (vb_nil (b := row33) rfl (Le.se (Le.se (Le.se (Le.se (Le.se (Le.se Le.e0 rfl) rfl) rfl) rfl) rfl) rfl)))
  (vb_nil (b := row28) rfl (Le.se (Le.se (Le.se (Le.se (Le.se (Le.se Le.e0 rfl) rfl) rfl) rfl) rfl) rfl))
  fun s30 => (vb_ifJ (eJ := (fun s35 : (List Int) => (se (se (se (se (se e0 2 (.vl .fz (en count3))) 3 (.vl .fz (en draws6))) 4 (.vl (.ow (.lst .frz) none) (en s1))) 5 (.vl .fz (en parts11))) 9 (.vl .fz (en s35))))) (vt_w (vw_and (vt_eq (t' := ((ixR part25 (0 : Int)).bind fun x34 => R.ok (decide (x34 = (1 : Int))))) (vt_cmp (op_eqA hr.room.units) o2_eq cEq (hEq) (te_ixL (ve_v (pv 8) rfl) ve_int) ve_int (nomark _)) (by first | with_reducible rfl | simp only [R.bind_eta, R.bind_assoc, R.okb, R.exb, R.nob, R.map_eq, q_gInt, q_gIntB, q_gLen, q_gLenT, q_gLenN, q_gAbs, q_gMax2, q_gMin2, q_gGcd, q_gSum, q_gAny, q_gAnyI, q_gMaxL, q_gLenF, q_cIsB, q_cNotB, q_gAll, q_gList, q_gListT, q_gTuple, q_gSorted, q_gSortedT, q_gRepr, q_cLt, q_cLe, q_cGt, q_cGe, q_cEq, q_cNe, q_cEqS, q_cNeS, q_cEqR, q_cNeR, q_cIsN, q_cIsS, q_cIn, q_cNi, q_cInR, q_cNiR, q_cInT, q_cNiT] | rfl)) (vw_and1 (vt_eq (t' := (R.ok (decide ((0 : Int) < (s1.length : Int))))) (vt_cmp op_gt o2_gt cGt hGt (ve_sc (ve_ca ca_len gLen hLen (pe_callB call_len_seq (by rfl) (B.bi "len" (by decide)) (by decide +kernel) (va_cons (ve_v (pv 4) rfl) va_nil)))) ve_int (nomark _)) (by rfl)))))
  (vb_set (ps_set (i := 9) nd rfl (by first | exact Or.inl rfl | exact Or.inr rfl) (ve_eq (m' := (((((ixR s1 (-(1 : Int))).bind fun x38 => (ixR x38 (0 : Int))).bind fun x39 => R.ok (x39 + (1 : Int))).bind fun x40 => R.ok ([x40] : List Int)).bind fun x42 => ((ixR s1 (-(1 : Int))).bind fun x41 => R.ok (cutL x41 (some (1 : Int)) none)).bind fun x43 => (catR x42 x43))) (ve_frz (te_cat (ve_frz (ve_lst (s := .frz) (fun (x : (Int × Unit)) => ([x.1] : List Int)) (va_cons (te_add (te_ixL (ve_r (b0 := false) (vr_ix (vr_v (s := (.lst .frz)) (x := s1) (pv 4) rfl) (te_neg ve_int))) ve_int) ve_int) va_nil))) (ve_frz (vn_sl (ve_r (b0 := false) (vr_ix (vr_v (s := (.lst .frz)) (x := s1) (pv 4) rfl) (te_neg ve_int))) (vo_some ve_int) vo_none)))) (by first | with_reducible rfl | simp only [R.bind_eta, R.bind_assoc, R.okb, R.exb, R.nob, R.map_eq, q_gInt, q_gIntB, q_gLen, q_gLenT, q_gLenN, q_gAbs, q_gMax2, q_gMin2, q_gGcd, q_gSum, q_gAny, q_gAnyI, q_gMaxL, q_gLenF, q_cIsB, q_cNotB, q_gAll, q_gList, q_gListT, q_gTuple, q_gSorted, q_gSortedT, q_gRepr, q_cLt, q_cLe, q_cGt, q_cGe, q_cEq, q_cNe, q_cEqS, q_cNeS, q_cEqR, q_cNeR, q_cIsN, q_cIsS, q_cIn, q_cNi, q_cInR, q_cNiR, q_cInT, q_cNiT] | rfl))) fun row44 =>
  (vb_nil (b := row44) rfl (Le.se (Le.se (Le.se (Le.se (Le.se Le.e0 rfl) rfl) rfl) rfl) rfl)))
  (vb_nil (b := s30) rfl (Le.se (Le.se (Le.se (Le.se (Le.se Le.e0 rfl) rfl) rfl) rfl) rfl))
  fun s35 => (tb_app (a := s1) (s2 := .frz) (ps_expr (pe_bm PySem.F.plainAttrs_list PySem.F.slot_list_append PySem.F.type_list_append mt_append (vp_v (pv 4)) (pa_cons (ve_v (pv 9) rfl) pa_nil))) (by first | with_reducible rfl | simp only [R.bind_eta, R.bind_assoc, R.okb, R.exb, R.nob, R.map_eq, q_gInt, q_gIntB, q_gLen, q_gLenT, q_gLenN, q_gAbs, q_gMax2, q_gMin2, q_gGcd, q_gSum, q_gAny, q_gAnyI, q_gMaxL, q_gLenF, q_cIsB, q_cNotB, q_gAll, q_gList, q_gListT, q_gTuple, q_gSorted, q_gSortedT, q_gRepr, q_cLt, q_cLe, q_cGt, q_cGe, q_cEq, q_cNe, q_cEqS, q_cNeS, q_cEqR, q_cNeR, q_cIsN, q_cIsS, q_cIn, q_cNi, q_cInR, q_cNiR, q_cInT, q_cNiT] | rfl) fun rows45 =>
  (vb_nilC (b := rows45) rfl (Le.se (Le.se (Le.se (Le.se Le.e0 rfl) rfl) rfl) rfl)))))))))
  fun s1' => (vb_frz 4 rfl (vb_ret0 (ps_ret (ve_eq (m' := ((ixR ([(8 : Int), (8 : Int), (7 : Int), (6 : Int), (5 : Int)] : List Int) count3).bind fun x47 => R.ok (cutL s1' none (some x47)))) (ve_frz (vn_sl (ve_v (pv 4) rfl) vo_none (vo_some (te_ixL (ve_frz (ve_lst (s := .frz) (fun (x : (Int × Int × Int × Int × Int × Unit)) => ([x.1, x.2.1, x.2.2.1, x.2.2.2.1, x.2.2.2.2.1] : List Int)) (va_cons ve_int (va_cons ve_int (va_cons ve_int (va_cons ve_int (va_cons ve_int va_nil))))))) (ve_v (pv 2) rfl))))) (by first | with_reducible rfl | simp only [R.bind_eta, R.bind_assoc, R.okb, R.exb, R.nob, R.map_eq, q_gInt, q_gIntB, q_gLen, q_gLenT, q_gLenN, q_gAbs, q_gMax2, q_gMin2, q_gGcd, q_gSum, q_gAny, q_gAnyI, q_gMaxL, q_gLenF, q_cIsB, q_cNotB, q_gAll, q_gList, q_gListT, q_gTuple, q_gSorted, q_gSortedT, q_gRepr, q_cLt, q_cLe, q_cGt, q_cGe, q_cEq, q_cNe, q_cEqS, q_cNeS, q_cEqR, q_cNeR, q_cIsN, q_cIsS, q_cIn, q_cNi, q_cInR, q_cNiR, q_cInT, q_cNiT] | rfl))))))))))

abbrev s_law_satisfied : Stmt := topS 26
theorem sc_law_satisfied : FnScope ["_law_rows_here", "_law_count", "_law_told", "_law_row", "_law_k"] ["_law_rows_here", "_law_count", "_law_told"] (defScope s_law_satisfied) := ⟨rfl, rfl, rfl, by decide +kernel, rfl, by decide +kernel, by decide +kernel⟩
theorem ok_law_satisfied (B : Bs K mg W) (hW : W.rc.xa = none) (d : Dn K mg "_law_satisfied" "_law_satisfied" s_law_satisfied ["_law_rows_here", "_law_count", "_law_told"]) (c_law_scaled : Cal P w K mg base W "_law_scaled" 3 (fun a : ((Int × Int) × Int × Unit) => f_law_scaled a.1 a.2.1) .frz) (c_law_sum : Cal P w K mg base W "_law_sum" 4 (fun a : ((List (Int × Int)) × Unit) => f_law_sum a.1) .frz) : Cal P w K mg base W "_law_satisfied" 5 (fun a : ((List (List Int)) × Int × SolA × Unit) => f_law_satisfied a.1 a.2.1 a.2.2.1) .frz :=
  cal d sc_law_satisfied fun fa cdv Ar outer sh H E hr a => by
    have nd := sc_law_satisfied.nd
    obtain ⟨rows1, count2, told3, _⟩ := a
    exact (show VB (cxOf (L2.CX P w) P w K mg base ["_law_rows_here", "_law_count", "_law_told", "_law_row", "_law_k"] "_law_satisfied" (defScope s_law_satisfied) fa cdv Ar outer sh H E) W (fun _ => E) (argE 0 [en rows1, en count2, en told3]) (defBody s_law_satisfied) (f_law_satisfied rows1 count2 told3) (rtOut .frz) from
  (vb_ifA (vt_w (vw_or (vt_eq (t' := (R.ok (decide (told3.word ≠ ("yes" : Str))))) (vt_cmp (op_neA hr.room.units) o2_ne cNeS hNeS (te_prj (fun x : SolA => x.word) (ve_v (pv 2) rfl) ve_int SolA.hw) ve_str (nomark _)) (by rfl)) (vw_or1 (vt_eq (t' := (((SolA.yes1 told3).bind fun x4 => R.ok (x4.length : Int)).bind fun x5 => R.ok (decide (x5 ≠ count2)))) (vt_cmp (op_neA hr.room.units) o2_ne cNe (hNe) (ve_ca ca_len gLen hLen (pe_callB call_len_seq (by rfl) (B.bi "len" (by decide)) (by decide +kernel) (va_cons (te_prjR SolA.yes1 (ve_v (pv 2) rfl) ve_int SolA.yes1_h) va_nil))) (ve_v (pv 1) rfl) (nomark _)) (by first | with_reducible rfl | simp only [R.bind_eta, R.bind_assoc, R.okb, R.exb, R.nob, R.map_eq, q_gInt, q_gIntB, q_gLen, q_gLenT, q_gLenN, q_gAbs, q_gMax2, q_gMin2, q_gGcd, q_gSum, q_gAny, q_gAnyI, q_gMaxL, q_gLenF, q_cIsB, q_cNotB, q_gAll, q_gList, q_gListT, q_gTuple, q_gSorted, q_gSortedT, q_gRepr, q_cLt, q_cLe, q_cGt, q_cGe, q_cEq, q_cNe, q_cEqS, q_cNeS, q_cEqR, q_cNeR, q_cIsN, q_cIsS, q_cIn, q_cNi, q_cInR, q_cNiR, q_cInT, q_cNiT] | rfl)))))
  (vb_retP (x := false) (ps_ret (ve_eq (m' := (R.ok false)) ve_bl (by rfl))))
  (tb_loop (f := (f_law_satisfied_l1 count2 told3)) (e := (fun s1 : Unit => (se (se e0 1 (.vl .fz (en count2))) 2 (.vl .fz (en told3))))) (s0 := ()) (g := (gN 3)) (fun _ _ => rfl) (passes_of rfl) rfl (vi_eqm (m' := (R.ok rows1)) (vi_list (ve_v (pv 0) rfl)) (by rfl)) (vg_name (pg_name (i := 3) nd rfl (by first | exact Or.inl rfl | exact Or.inr rfl))) (Le.se (Le.se Le.e0 rfl) rfl)
  (fun x1_ s1 => (vb_if (vt_eq (t' := (((((((ixR x1_ (0 : Int)).bind fun x8 => R.ok (x8, (1 : Int))).bind fun x9 => R.ok ([x9] : List (Int × Int))).bind fun x15 => ((rng1 count2).bind fun x14 => (noX (mapR (fun v10 : Int => (((SolA.yes1 told3).bind fun x11 => (ixR x11 v10)).bind fun x12 => (ixR x1_ ((1 : Int) + v10)).bind fun x13 => (f_law_scaled x12 x13))) x14))).bind fun x16 => (catR x15 x16)).bind fun x17 => (f_law_sum x17)).bind fun x18 => R.ok x18.1).bind fun x19 => R.ok (decide (x19 < (0 : Int))))) (vt_cmp op_lt o2_lt cLt hLt (te_prj (fun x : (Int × Int) => x.1) (ve_call c_law_sum hr (pass_fn (takes_of rfl rfl rfl rfl)) (va_cons (ve_frz (te_cat (ve_frz (ve_lst (s := .frz) (fun (x : ((Int × Int) × Unit)) => ([x.1] : List (Int × Int))) (va_cons (ve_frz (ve_tup (s := .frz) (fun (x : (Int × Int × Unit)) => ((x.1, x.2.1) : (Int × Int))) (va_cons (te_ixL (ve_v (pv 3) rfl) ve_int) (va_cons ve_int va_nil)))) va_nil))) (ve_frz (te_lc (own := [("_law_k", 4)]) (g := (gN 4)) lcM rfl nd (vi_rng1 (by rfl) (B.bi "range" (by decide)) (va_cons (ve_v (pv 1) rfl) va_nil)) (blkOk_by (N := ["_law_rows_here", "_law_count", "_law_told", "_law_row", "_law_k"]) (sc := defScope s_law_satisfied) (by decide +kernel)) (fun _ _ _ _ _ => (vg_name (pg_name (i := 4) nd rfl (by first | exact Or.inl rfl | exact Or.inr rfl)))) (fun _ => rfl) (fun (v10 : Int) _ _ _ _ _ => vts_nil) (fun (v10 : Int) _ _ _ _ _ => (ve_eq (m' := (((SolA.yes1 told3).bind fun x11 => (ixR x11 v10)).bind fun x12 => (ixR x1_ ((1 : Int) + v10)).bind fun x13 => (f_law_scaled x12 x13))) (ve_call c_law_scaled hr pass_any (va_cons (te_ixL (te_prjR SolA.yes1 (ve_v (pv 2) rfl) ve_int SolA.yes1_h) (ve_v (pv 4) rfl)) (va_cons (te_ixL (ve_v (pv 3) rfl) (te_add ve_int (ve_v (pv 4) rfl))) va_nil))) (by first | with_reducible rfl | simp only [R.bind_eta, R.bind_assoc, R.okb, R.exb, R.nob, R.map_eq, q_gInt, q_gIntB, q_gLen, q_gLenT, q_gLenN, q_gAbs, q_gMax2, q_gMin2, q_gGcd, q_gSum, q_gAny, q_gAnyI, q_gMaxL, q_gLenF, q_cIsB, q_cNotB, q_gAll, q_gList, q_gListT, q_gTuple, q_gSorted, q_gSortedT, q_gRepr, q_cLt, q_cLe, q_cGt, q_cGe, q_cEq, q_cNe, q_cEqS, q_cNeS, q_cEqR, q_cNeR, q_cIsN, q_cIsS, q_cIn, q_cNi, q_cInR, q_cNiR, q_cInT, q_cNiT] | rfl))))))) va_nil)) ve_int) ve_int (nomark _)) (by first | with_reducible rfl | simp only [R.bind_eta, R.bind_assoc, R.okb, R.exb, R.nob, R.map_eq, q_gInt, q_gIntB, q_gLen, q_gLenT, q_gLenN, q_gAbs, q_gMax2, q_gMin2, q_gGcd, q_gSum, q_gAny, q_gAnyI, q_gMaxL, q_gLenF, q_cIsB, q_cNotB, q_gAll, q_gList, q_gListT, q_gTuple, q_gSorted, q_gSortedT, q_gRepr, q_cLt, q_cLe, q_cGt, q_cGe, q_cEq, q_cNe, q_cEqS, q_cNeS, q_cEqR, q_cNeR, q_cIsN, q_cIsS, q_cIn, q_cNi, q_cInR, q_cNiR, q_cInT, q_cNiT] | rfl))
  (vb_retP (x := false) (ps_ret (ve_eq (m' := (R.ok false)) ve_bl (by rfl))))
  (vb_nilC (b := (Lc.nx ())) rfl (Le.se (Le.se Le.e0 rfl) rfl))))
  fun s1' => (vb_retP (x := true) (ps_ret (ve_eq (m' := (R.ok true)) ve_bl (by rfl)))))))

abbrev s_law_right : Stmt := topS 27
theorem sc_law_right : FnScope ["_law_rows_here", "_law_count", "_law_told", "_law_one", "_law_row", "_law_common", "_law_item", "_law_k"] ["_law_rows_here", "_law_count", "_law_told"] (defScope s_law_right) := ⟨rfl, rfl, rfl, by decide +kernel, rfl, by decide +kernel, by decide +kernel⟩
theorem ok_law_right (B : Bs K mg W) (hW : W.rc.xa = none) (d : Dn K mg "_law_right" "_law_right" s_law_right ["_law_rows_here", "_law_count", "_law_told"]) (c_law_gcd : Cal P w K mg base W "_law_gcd" 1 (fun a : (Int × Int × Unit) => f_law_gcd a.1 a.2.1) .frz) (c_law_fraction : Cal P w K mg base W "_law_fraction" 2 (fun a : (Int × Int × Unit) => f_law_fraction a.1 a.2.1) .frz) (c_law_possible : Cal P w K mg base W "_law_possible" 4 (fun a : ((List (List Int)) × Int × Unit) => f_law_possible a.1 a.2.1) .frz) (c_law_scaled : Cal P w K mg base W "_law_scaled" 3 (fun a : ((Int × Int) × Int × Unit) => f_law_scaled a.1 a.2.1) .frz) (c_law_sum : Cal P w K mg base W "_law_sum" 4 (fun a : ((List (Int × Int)) × Unit) => f_law_sum a.1) .frz) (c_law_is_refusal : Cal P w K mg base W "_law_is_refusal" 1 (fun a : ((List (List Int)) × (List Int) × Unit) => f_law_is_refusal a.1 a.2.1) .frz) : Cal P w K mg base W "_law_right" 5 (fun a : ((List (List Int)) × Int × SolA × Unit) => f_law_right a.1 a.2.1 a.2.2.1) .frz :=
  cal d sc_law_right fun fa cdv Ar outer sh H E hr a => by
    have nd := sc_law_right.nd
    obtain ⟨rows1, count2, told3, _⟩ := a
    exact (show VB (cxOf (L2.CX P w) P w K mg base ["_law_rows_here", "_law_count", "_law_told", "_law_one", "_law_row", "_law_common", "_law_item", "_law_k"] "_law_right" (defScope s_law_right) fa cdv Ar outer sh H E) W (fun _ => E) (argE 0 [en rows1, en count2, en told3]) (defBody s_law_right) (f_law_right rows1 count2 told3) (rtOut .frz) from
  (vb_ifA (vt_w (vw_or (vt_eq (t' := R.ok (!true)) (vt_not (vt_eq (t' := (R.ok true)) (vt_val (te_isi (T := "tuple") (pe_callB call_isi (by rfl) (B.bi "isinstance" (by decide)) (by decide +kernel) (pa_cons (ve_v (pv 2) rfl) (pa_cons (pe_bltn (by rfl) (B.bi "tuple" (by decide)) (by decide +kernel) rfl) pa_nil))))) (by rfl))) (by rfl)) (vw_or (vt_eq (t' := (R.ok (decide ((2 : Int) ≠ (2 : Int))))) (vt_cmp (op_neA hr.room.units) o2_ne cNe (hNe) (ve_ca ca_len (gLenN (α := SolA) 2) (fun _ => rfl) (pe_callB call_len_seq (by rfl) (B.bi "len" (by decide)) (by decide +kernel) (va_cons (ve_v (pv 2) rfl) va_nil))) ve_int (nomark _)) (by rfl)) (vw_or1 (vt_eq (t' := ((isiR "list" (en (SolA1.mk told3))).bind fun x4 => R.ok (!x4))) (vt_not (vt_eq (t' := (isiR "list" (en (SolA1.mk told3)))) (vt_val (te_isi (T := "list") (pe_callB call_isi (by rfl) (B.bi "isinstance" (by decide)) (by decide +kernel) (pa_cons (te_prj SolA1.mk (ve_v (pv 2) rfl) ve_int (fun _ => rfl)) (pa_cons (pe_bltn (by rfl) (B.bi "list" (by decide)) (by decide +kernel) rfl) pa_nil))))) (by first | with_reducible rfl | simp only [R.bind_eta, R.bind_assoc, R.okb, R.exb, R.nob, R.map_eq, q_gInt, q_gIntB, q_gLen, q_gLenT, q_gLenN, q_gAbs, q_gMax2, q_gMin2, q_gGcd, q_gSum, q_gAny, q_gAnyI, q_gMaxL, q_gLenF, q_cIsB, q_cNotB, q_gAll, q_gList, q_gListT, q_gTuple, q_gSorted, q_gSortedT, q_gRepr, q_cLt, q_cLe, q_cGt, q_cGe, q_cEq, q_cNe, q_cEqS, q_cNeS, q_cEqR, q_cNeR, q_cIsN, q_cIsS, q_cIn, q_cNi, q_cInR, q_cNiR, q_cInT, q_cNiT] | rfl))) (by first | with_reducible rfl | simp only [R.bind_eta, R.bind_assoc, R.okb, R.exb, R.nob, R.map_eq, q_gInt, q_gIntB, q_gLen, q_gLenT, q_gLenN, q_gAbs, q_gMax2, q_gMin2, q_gGcd, q_gSum, q_gAny, q_gAnyI, q_gMaxL, q_gLenF, q_cIsB, q_cNotB, q_gAll, q_gList, q_gListT, q_gTuple, q_gSorted, q_gSortedT, q_gRepr, q_cLt, q_cLe, q_cGt, q_cGe, q_cEq, q_cNe, q_cEqS, q_cNeS, q_cEqR, q_cNeR, q_cIsN, q_cIsS, q_cIn, q_cNi, q_cInR, q_cNiR, q_cInT, q_cNiT] | rfl))))))
  (vb_retP (x := false) (ps_ret (ve_eq (m' := (R.ok false)) ve_bl (by rfl))))
  (vb_ifA (vt_eq (t' := ((f_law_possible rows1 count2).bind fun x5 => R.ok (!x5))) (vt_not (vt_eq (t' := (f_law_possible rows1 count2)) (vt_val (ve_call c_law_possible hr (pass_fn (takes_of rfl rfl rfl rfl)) (va_cons (ve_v (pv 0) rfl) (va_cons (ve_v (pv 1) rfl) va_nil)))) (by first | with_reducible rfl | simp only [R.bind_eta, R.bind_assoc, R.okb, R.exb, R.nob, R.map_eq, q_gInt, q_gIntB, q_gLen, q_gLenT, q_gLenN, q_gAbs, q_gMax2, q_gMin2, q_gGcd, q_gSum, q_gAny, q_gAnyI, q_gMaxL, q_gLenF, q_cIsB, q_cNotB, q_gAll, q_gList, q_gListT, q_gTuple, q_gSorted, q_gSortedT, q_gRepr, q_cLt, q_cLe, q_cGt, q_cGe, q_cEq, q_cNe, q_cEqS, q_cNeS, q_cEqR, q_cNeR, q_cIsN, q_cIsS, q_cIn, q_cNi, q_cInR, q_cNiR, q_cInT, q_cNiT] | rfl))) (by first | with_reducible rfl | simp only [R.bind_eta, R.bind_assoc, R.okb, R.exb, R.nob, R.map_eq, q_gInt, q_gIntB, q_gLen, q_gLenT, q_gLenN, q_gAbs, q_gMax2, q_gMin2, q_gGcd, q_gSum, q_gAny, q_gAnyI, q_gMaxL, q_gLenF, q_cIsB, q_cNotB, q_gAll, q_gList, q_gListT, q_gTuple, q_gSorted, q_gSortedT, q_gRepr, q_cLt, q_cLe, q_cGt, q_cGe, q_cEq, q_cNe, q_cEqS, q_cNeS, q_cEqR, q_cNeR, q_cIsN, q_cIsS, q_cIn, q_cNi, q_cInR, q_cNiR, q_cInT, q_cNiT] | rfl))
  (vb_set (ps_set (i := 5) nd rfl (by first | exact Or.inl rfl | exact Or.inr rfl) (ve_eq (m' := (R.ok (0 : Int))) ve_int (by rfl))) fun common6 =>
  (vb_ifA (vt_w (vw_or (vt_eq (t' := (R.ok (decide (told3.word ≠ ("no" : Str))))) (vt_cmp (op_neA hr.room.units) o2_ne cNeS hNeS (te_prj (fun x : SolA => x.word) (ve_v (pv 2) rfl) ve_int SolA.hw) ve_str (nomark _)) (by rfl)) (vw_or1 (vt_eq (t' := (((SolA.no1 told3).bind fun x8 => R.ok (x8.map (fun v7 : Int => false))).bind fun x9 => R.ok (x9.any id))) (vt_val (ve_ca ca_any gAny hAny (pe_callB (cr_any rfl) (by rfl) (B.bi "any" (by decide)) (by decide +kernel) (va_cons (ve_frz (te_lc (own := [("_law_item", 6)]) (g := (gN 6)) lcP rfl nd (vi_list (te_prjR SolA.no1 (ve_v (pv 2) rfl) ve_int SolA.no1_h)) (blkOk_by (N := ["_law_rows_here", "_law_count", "_law_told", "_law_one", "_law_row", "_law_common", "_law_item", "_law_k"]) (sc := defScope s_law_right) (by decide +kernel)) (fun _ _ _ _ _ => (vg_name (pg_name (i := 6) nd rfl (by first | exact Or.inl rfl | exact Or.inr rfl)))) (fun _ => rfl) (fun (v7 : Int) _ _ _ _ _ => vts_nil) (fun (v7 : Int) _ _ _ _ _ => (ve_eq (m' := (R.ok false)) (te_isi (T := "bool") (pe_callB call_isi (by rfl) (B.bi "isinstance" (by decide)) (by decide +kernel) (pa_cons (ve_v (pv 6) rfl) (pa_cons (pe_bltn (by rfl) (B.bi "bool" (by decide)) (by decide +kernel) rfl) pa_nil)))) (by rfl))))) va_nil)))) (by first | with_reducible rfl | simp only [R.bind_eta, R.bind_assoc, R.okb, R.exb, R.nob, R.map_eq, q_gInt, q_gIntB, q_gLen, q_gLenT, q_gLenN, q_gAbs, q_gMax2, q_gMin2, q_gGcd, q_gSum, q_gAny, q_gAnyI, q_gMaxL, q_gLenF, q_cIsB, q_cNotB, q_gAll, q_gList, q_gListT, q_gTuple, q_gSorted, q_gSortedT, q_gRepr, q_cLt, q_cLe, q_cGt, q_cGe, q_cEq, q_cNe, q_cEqS, q_cNeS, q_cEqR, q_cNeR, q_cIsN, q_cIsS, q_cIn, q_cNi, q_cInR, q_cNiR, q_cInT, q_cNiT] | rfl)))))
  (vb_retP (x := false) (ps_ret (ve_eq (m' := (R.ok false)) ve_bl (by rfl))))
  (tb_for (f := (f_law_right_l1 rows1 told3)) (e := (fun s1 : Int => (se (se (se e0 0 (.vl .fz (en rows1))) 2 (.vl .fz (en told3))) 5 (.vl .fz (en s1))))) (s0 := common6) (g := (gN 6)) (fun _ _ => rfl) (passes_of rfl) rfl (vi_eqm (m' := (SolA.no1 told3)) (vi_list (te_prjR SolA.no1 (ve_v (pv 2) rfl) ve_int SolA.no1_h)) (by first | with_reducible rfl | simp only [R.bind_eta, R.bind_assoc, R.okb, R.exb, R.nob, R.map_eq, q_gInt, q_gIntB, q_gLen, q_gLenT, q_gLenN, q_gAbs, q_gMax2, q_gMin2, q_gGcd, q_gSum, q_gAny, q_gAnyI, q_gMaxL, q_gLenF, q_cIsB, q_cNotB, q_gAll, q_gList, q_gListT, q_gTuple, q_gSorted, q_gSortedT, q_gRepr, q_cLt, q_cLe, q_cGt, q_cGe, q_cEq, q_cNe, q_cEqS, q_cNeS, q_cEqR, q_cNeR, q_cIsN, q_cIsS, q_cIn, q_cNi, q_cInR, q_cNiR, q_cInT, q_cNiT] | rfl)) (vg_name (pg_name (i := 6) nd rfl (by first | exact Or.inl rfl | exact Or.inr rfl))) (Le.se (Le.se (Le.se Le.e0 rfl) rfl) rfl)
  (fun x1_ s1 => (vb_set (ps_set (i := 5) nd rfl (by first | exact Or.inl rfl | exact Or.inr rfl) (ve_eq (m' := (f_law_gcd s1 x1_)) (ve_call c_law_gcd hr (pass_fn (takes_of rfl rfl rfl rfl)) (va_cons (ve_v (pv 5) rfl) (va_cons (ve_v (pv 6) rfl) va_nil))) (by first | with_reducible rfl | simp only [R.bind_eta, R.bind_assoc, R.okb, R.exb, R.nob, R.map_eq, q_gInt, q_gIntB, q_gLen, q_gLenT, q_gLenN, q_gAbs, q_gMax2, q_gMin2, q_gGcd, q_gSum, q_gAny, q_gAnyI, q_gMaxL, q_gLenF, q_cIsB, q_cNotB, q_gAll, q_gList, q_gListT, q_gTuple, q_gSorted, q_gSortedT, q_gRepr, q_cLt, q_cLe, q_cGt, q_cGe, q_cEq, q_cNe, q_cEqS, q_cNeS, q_cEqR, q_cNeR, q_cIsN, q_cIsS, q_cIn, q_cNi, q_cInR, q_cNiR, q_cInT, q_cNiT] | rfl))) fun common12 =>
  (vb_nilC (b := common12) rfl (Le.se (Le.se (Le.se Le.e0 rfl) rfl) rfl))))
  fun s1' => (vb_ret0 (ps_ret (ve_eq (m' := (andR ((SolA.no1 told3).bind fun x13 => (f_law_is_refusal rows1 x13)) (R.ok (decide (s1' = (1 : Int)))))) (ve_and (ve_eq (m' := ((SolA.no1 told3).bind fun x13 => (f_law_is_refusal rows1 x13))) (ve_call c_law_is_refusal hr (pass_fn (takes_of rfl rfl rfl rfl)) (va_cons (ve_v (pv 0) rfl) (va_cons (te_prjR SolA.no1 (ve_v (pv 2) rfl) ve_int SolA.no1_h) va_nil))) (by first | with_reducible rfl | simp only [R.bind_eta, R.bind_assoc, R.okb, R.exb, R.nob, R.map_eq, q_gInt, q_gIntB, q_gLen, q_gLenT, q_gLenN, q_gAbs, q_gMax2, q_gMin2, q_gGcd, q_gSum, q_gAny, q_gAnyI, q_gMaxL, q_gLenF, q_cIsB, q_cNotB, q_gAll, q_gList, q_gListT, q_gTuple, q_gSorted, q_gSortedT, q_gRepr, q_cLt, q_cLe, q_cGt, q_cGe, q_cEq, q_cNe, q_cEqS, q_cNeS, q_cEqR, q_cNeR, q_cIsN, q_cIsS, q_cIn, q_cNi, q_cInR, q_cNiR, q_cInT, q_cNiT] | rfl)) (ve_one (ve_eq (m' := (R.ok (decide (s1' = (1 : Int))))) (ve_cmp (op_eqA hr.room.units) o2_eq cEq (hEq) (ve_v (pv 5) rfl) ve_int (nomark _)) (by rfl)))) (by first | with_reducible rfl | simp only [R.bind_eta, R.bind_assoc, R.okb, R.exb, R.nob, R.map_eq, q_gInt, q_gIntB, q_gLen, q_gLenT, q_gLenN, q_gAbs, q_gMax2, q_gMin2, q_gGcd, q_gSum, q_gAny, q_gAnyI, q_gMaxL, q_gLenF, q_cIsB, q_cNotB, q_gAll, q_gList, q_gListT, q_gTuple, q_gSorted, q_gSortedT, q_gRepr, q_cLt, q_cLe, q_cGt, q_cGe, q_cEq, q_cNe, q_cEqS, q_cNeS, q_cEqR, q_cNeR, q_cIsN, q_cIsS, q_cIn, q_cNi, q_cInR, q_cNiR, q_cInT, q_cNiT] | rfl)))))))
  (vb_ifA (vt_w (vw_or (vt_eq (t' := (R.ok (decide (told3.word ≠ ("yes" : Str))))) (vt_cmp (op_neA hr.room.units) o2_ne cNeS hNeS (te_prj (fun x : SolA => x.word) (ve_v (pv 2) rfl) ve_int SolA.hw) ve_str (nomark _)) (by rfl)) (vw_or1 (vt_eq (t' := (((SolA.yes1 told3).bind fun x14 => R.ok (x14.length : Int)).bind fun x15 => R.ok (decide (x15 ≠ count2)))) (vt_cmp (op_neA hr.room.units) o2_ne cNe (hNe) (ve_ca ca_len gLen hLen (pe_callB call_len_seq (by rfl) (B.bi "len" (by decide)) (by decide +kernel) (va_cons (te_prjR SolA.yes1 (ve_v (pv 2) rfl) ve_int SolA.yes1_h) va_nil))) (ve_v (pv 1) rfl) (nomark _)) (by first | with_reducible rfl | simp only [R.bind_eta, R.bind_assoc, R.okb, R.exb, R.nob, R.map_eq, q_gInt, q_gIntB, q_gLen, q_gLenT, q_gLenN, q_gAbs, q_gMax2, q_gMin2, q_gGcd, q_gSum, q_gAny, q_gAnyI, q_gMaxL, q_gLenF, q_cIsB, q_cNotB, q_gAll, q_gList, q_gListT, q_gTuple, q_gSorted, q_gSortedT, q_gRepr, q_cLt, q_cLe, q_cGt, q_cGe, q_cEq, q_cNe, q_cEqS, q_cNeS, q_cEqR, q_cNeR, q_cIsN, q_cIsS, q_cIn, q_cNi, q_cInR, q_cNiR, q_cInT, q_cNiT] | rfl)))))
  (vb_retP (x := false) (ps_ret (ve_eq (m' := (R.ok false)) ve_bl (by rfl))))
  (tb_loop (f := (f_law_right_l2 rows1 count2 told3)) (e := (fun s2 : Unit => (se (se (se e0 0 (.vl .fz (en rows1))) 1 (.vl .fz (en count2))) 2 (.vl .fz (en told3))))) (s0 := ()) (g := (gN 3)) (fun _ _ => rfl) (passes_of rfl) rfl (vi_eqm (m' := (SolA.yes1 told3)) (vi_list (te_prjR SolA.yes1 (ve_v (pv 2) rfl) ve_int SolA.yes1_h)) (by first | with_reducible rfl | simp only [R.bind_eta, R.bind_assoc, R.okb, R.exb, R.nob, R.map_eq, q_gInt, q_gIntB, q_gLen, q_gLenT, q_gLenN, q_gAbs, q_gMax2, q_gMin2, q_gGcd, q_gSum, q_gAny, q_gAnyI, q_gMaxL, q_gLenF, q_cIsB, q_cNotB, q_gAll, q_gList, q_gListT, q_gTuple, q_gSorted, q_gSortedT, q_gRepr, q_cLt, q_cLe, q_cGt, q_cGe, q_cEq, q_cNe, q_cEqS, q_cNeS, q_cEqR, q_cNeR, q_cIsN, q_cIsS, q_cIn, q_cNi, q_cInR, q_cNiR, q_cInT, q_cNiT] | rfl)) (vg_name (pg_name (i := 3) nd rfl (by first | exact Or.inl rfl | exact Or.inr rfl))) (Le.se (Le.se (Le.se Le.e0 rfl) rfl) rfl)
  (fun x2_ s2 => (vb_ifA (vt_w (vw_or (vt_eq (t' := R.ok (!true)) (vt_not (vt_eq (t' := (R.ok true)) (vt_val (te_isi (T := "tuple") (pe_callB call_isi (by rfl) (B.bi "isinstance" (by decide)) (by decide +kernel) (pa_cons (ve_v (pv 3) rfl) (pa_cons (pe_bltn (by rfl) (B.bi "tuple" (by decide)) (by decide +kernel) rfl) pa_nil))))) (by rfl))) (by rfl)) (vw_or (vt_eq (t' := ((f_law_fraction x2_.1 x2_.2).bind fun x19 => R.ok (decide (x2_ ≠ x19)))) (vt_cmp (op_neA hr.room.units) o2_ne cNe (hNe) (ve_v (pv 3) rfl) (ve_call c_law_fraction hr (pass_fn (takes_of rfl rfl rfl rfl)) (va_cons (te_prj (fun x : (Int × Int) => x.1) (ve_v (pv 3) rfl) ve_int) (va_cons (te_prj (fun x : (Int × Int) => x.2) (ve_v (pv 3) rfl) ve_int) va_nil))) (nomark _)) (by first | with_reducible rfl | simp only [R.bind_eta, R.bind_assoc, R.okb, R.exb, R.nob, R.map_eq, q_gInt, q_gIntB, q_gLen, q_gLenT, q_gLenN, q_gAbs, q_gMax2, q_gMin2, q_gGcd, q_gSum, q_gAny, q_gAnyI, q_gMaxL, q_gLenF, q_cIsB, q_cNotB, q_gAll, q_gList, q_gListT, q_gTuple, q_gSorted, q_gSortedT, q_gRepr, q_cLt, q_cLe, q_cGt, q_cGe, q_cEq, q_cNe, q_cEqS, q_cNeS, q_cEqR, q_cNeR, q_cIsN, q_cIsS, q_cIn, q_cNi, q_cInR, q_cNiR, q_cInT, q_cNiT] | rfl)) (vw_or1 (vt_eq (t' := (R.ok (decide (x2_.2 < (1 : Int))))) (vt_cmp op_lt o2_lt cLt hLt (te_prj (fun x : (Int × Int) => x.2) (ve_v (pv 3) rfl) ve_int) ve_int (nomark _)) (by rfl))))))
  (vb_retP (x := false) (ps_ret (ve_eq (m' := (R.ok false)) ve_bl (by rfl))))
  (vb_if (vt_eq (t' := (R.ok (((Tu.mk ([x2_.1, x2_.2] : List Int)).l.map (fun v20 : Int => false)).any id))) (vt_val (ve_ca ca_any gAny hAny (pe_callB (cr_any rfl) (by rfl) (B.bi "any" (by decide)) (by decide +kernel) (va_cons (ve_frz (te_lc (own := [("_law_item", 6)]) (g := (gN 6)) lcP rfl nd (vi_tup (ve_eq (m' := (R.ok (Tu.mk ([x2_.1, x2_.2] : List Int)))) (ve_cast (β := (Tu Int)) (fun x : (Int × Int) => (Tu.mk ([x.1, x.2] : List Int))) (ve_v (pv 3) rfl)) (by rfl))) (blkOk_by (N := ["_law_rows_here", "_law_count", "_law_told", "_law_one", "_law_row", "_law_common", "_law_item", "_law_k"]) (sc := defScope s_law_right) (by decide +kernel)) (fun _ _ _ _ _ => (vg_name (pg_name (i := 6) nd rfl (by first | exact Or.inl rfl | exact Or.inr rfl)))) (fun _ => rfl) (fun (v20 : Int) _ _ _ _ _ => vts_nil) (fun (v20 : Int) _ _ _ _ _ => (ve_eq (m' := (R.ok false)) (te_isi (T := "bool") (pe_callB call_isi (by rfl) (B.bi "isinstance" (by decide)) (by decide +kernel) (pa_cons (ve_v (pv 6) rfl) (pa_cons (pe_bltn (by rfl) (B.bi "bool" (by decide)) (by decide +kernel) rfl) pa_nil)))) (by rfl))))) va_nil)))) (by rfl))
  (vb_retP (x := false) (ps_ret (ve_eq (m' := (R.ok false)) ve_bl (by rfl))))
  (vb_nilC (b := (Lc.nx ())) rfl (Le.se (Le.se (Le.se Le.e0 rfl) rfl) rfl)))))
  fun s2' => (tb_loop (f := (f_law_right_l3 count2 told3)) (e := (fun s3 : Unit => (se (se e0 1 (.vl .fz (en count2))) 2 (.vl .fz (en told3))))) (s0 := ()) (g := (gN 4)) (fun _ _ => rfl) (passes_of rfl) rfl (vi_eqm (m' := (R.ok rows1)) (vi_list (ve_v (pv 0) rfl)) (by rfl)) (vg_name (pg_name (i := 4) nd rfl (by first | exact Or.inl rfl | exact Or.inr rfl))) (Le.se (Le.se Le.e0 rfl) rfl)
  (fun x3_ s3 => (vb_if (vt_eq (t' := (((((((ixR x3_ (0 : Int)).bind fun x23 => R.ok (x23, (1 : Int))).bind fun x24 => R.ok ([x24] : List (Int × Int))).bind fun x30 => ((rng1 count2).bind fun x29 => (noX (mapR (fun v25 : Int => (((SolA.yes1 told3).bind fun x26 => (ixR x26 v25)).bind fun x27 => (ixR x3_ ((1 : Int) + v25)).bind fun x28 => (f_law_scaled x27 x28))) x29))).bind fun x31 => (catR x30 x31)).bind fun x32 => (f_law_sum x32)).bind fun x33 => R.ok x33.1).bind fun x34 => R.ok (decide (x34 < (0 : Int))))) (vt_cmp op_lt o2_lt cLt hLt (te_prj (fun x : (Int × Int) => x.1) (ve_call c_law_sum hr (pass_fn (takes_of rfl rfl rfl rfl)) (va_cons (ve_frz (te_cat (ve_frz (ve_lst (s := .frz) (fun (x : ((Int × Int) × Unit)) => ([x.1] : List (Int × Int))) (va_cons (ve_frz (ve_tup (s := .frz) (fun (x : (Int × Int × Unit)) => ((x.1, x.2.1) : (Int × Int))) (va_cons (te_ixL (ve_v (pv 4) rfl) ve_int) (va_cons ve_int va_nil)))) va_nil))) (ve_frz (te_lc (own := [("_law_k", 7)]) (g := (gN 7)) lcM rfl nd (vi_rng1 (by rfl) (B.bi "range" (by decide)) (va_cons (ve_v (pv 1) rfl) va_nil)) (blkOk_by (N := ["_law_rows_here", "_law_count", "_law_told", "_law_one", "_law_row", "_law_common", "_law_item", "_law_k"]) (sc := defScope s_law_right) (by decide +kernel)) (fun _ _ _ _ _ => (vg_name (pg_name (i := 7) nd rfl (by first | exact Or.inl rfl | exact Or.inr rfl)))) (fun _ => rfl) (fun (v25 : Int) _ _ _ _ _ => vts_nil) (fun (v25 : Int) _ _ _ _ _ => (ve_eq (m' := (((SolA.yes1 told3).bind fun x26 => (ixR x26 v25)).bind fun x27 => (ixR x3_ ((1 : Int) + v25)).bind fun x28 => (f_law_scaled x27 x28))) (ve_call c_law_scaled hr pass_any (va_cons (te_ixL (te_prjR SolA.yes1 (ve_v (pv 2) rfl) ve_int SolA.yes1_h) (ve_v (pv 7) rfl)) (va_cons (te_ixL (ve_v (pv 4) rfl) (te_add ve_int (ve_v (pv 7) rfl))) va_nil))) (by first | with_reducible rfl | simp only [R.bind_eta, R.bind_assoc, R.okb, R.exb, R.nob, R.map_eq, q_gInt, q_gIntB, q_gLen, q_gLenT, q_gLenN, q_gAbs, q_gMax2, q_gMin2, q_gGcd, q_gSum, q_gAny, q_gAnyI, q_gMaxL, q_gLenF, q_cIsB, q_cNotB, q_gAll, q_gList, q_gListT, q_gTuple, q_gSorted, q_gSortedT, q_gRepr, q_cLt, q_cLe, q_cGt, q_cGe, q_cEq, q_cNe, q_cEqS, q_cNeS, q_cEqR, q_cNeR, q_cIsN, q_cIsS, q_cIn, q_cNi, q_cInR, q_cNiR, q_cInT, q_cNiT] | rfl))))))) va_nil)) ve_int) ve_int (nomark _)) (by first | with_reducible rfl | simp only [R.bind_eta, R.bind_assoc, R.okb, R.exb, R.nob, R.map_eq, q_gInt, q_gIntB, q_gLen, q_gLenT, q_gLenN, q_gAbs, q_gMax2, q_gMin2, q_gGcd, q_gSum, q_gAny, q_gAnyI, q_gMaxL, q_gLenF, q_cIsB, q_cNotB, q_gAll, q_gList, q_gListT, q_gTuple, q_gSorted, q_gSortedT, q_gRepr, q_cLt, q_cLe, q_cGt, q_cGe, q_cEq, q_cNe, q_cEqS, q_cNeS, q_cEqR, q_cNeR, q_cIsN, q_cIsS, q_cIn, q_cNi, q_cInR, q_cNiR, q_cInT, q_cNiT] | rfl))
  (vb_retP (x := false) (ps_ret (ve_eq (m' := (R.ok false)) ve_bl (by rfl))))
  (vb_nilC (b := (Lc.nx ())) rfl (Le.se (Le.se Le.e0 rfl) rfl))))
  fun s3' => (vb_retP (x := true) (ps_ret (ve_eq (m' := (R.ok true)) ve_bl (by rfl))))))))))

abbrev s_law : Stmt := topS 28
theorem sc_law : FnScope ["_law_script", "_law_k", "_law_many", "_law_bounds", "_law_told", "_law_count", "_law_rows_here", "_law_before", "_law_again", "_law_far", "_law_at", "_law_good", "_law_bad", "_law_j"] ["_law_script"] (defScope s_law) := ⟨rfl, rfl, rfl, by decide +kernel, rfl, by decide +kernel, by decide +kernel⟩
theorem ok_law (B : Bs K mg W) (hW : W.rc.xa = none) {fl : Addr} {fd : FuncData} (Fl : Fun K "law" "law" s_law fl fd) (c_solve : Cal P w K mg base W "solve" 4 (fun a : ((List (List Int)) × Int × Unit) => f_solve a.1 a.2.1) (.tup (.lst .frz))) (c_law_cell : Cal P w K mg base W "_law_cell" 1 (fun a : ((List Int) × Int × Unit) => f_law_cell a.1 a.2.1) .frz) (c_law_is_refusal : Cal P w K mg base W "_law_is_refusal" 1 (fun a : ((List (List Int)) × (List Int) × Unit) => f_law_is_refusal a.1 a.2.1) .frz) (c_law_refused : Cal P w K mg base W "_law_refused" 5 (fun a : ((List (List Int)) × Int × Unit) => f_law_refused a.1 a.2.1) .frz) (c_law_rows : Cal P w K mg base W "_law_rows" 2 (fun a : (Int × Int × Int × Unit) => f_law_rows a.1 a.2.1 a.2.2.1) .frz) (c_law_satisfied : Cal P w K mg base W "_law_satisfied" 5 (fun a : ((List (List Int)) × Int × SolA × Unit) => f_law_satisfied a.1 a.2.1 a.2.2.1) .frz) (c_law_right : Cal P w K mg base W "_law_right" 5 (fun a : ((List (List Int)) × Int × SolA × Unit) => f_law_right a.1 a.2.1 a.2.2.1) .frz) : FnG P w K mg base 6 fl fd ["_law_script"] (spT K W (fun a : ((List Int) × Unit) => f_law a.1) .frz) :=
  fn_rt Fl sc_law fun cdv Ar outer sh H E hr a => by
    have nd := sc_law.nd
    obtain ⟨script1, _⟩ := a
    exact (show VB (cxOf (L2.CX P w) P w K mg base ["_law_script", "_law_k", "_law_many", "_law_bounds", "_law_told", "_law_count", "_law_rows_here", "_law_before", "_law_again", "_law_far", "_law_at", "_law_good", "_law_bad", "_law_j"] "law" (defScope s_law) fl cdv Ar outer sh H E) W (fun _ => E) (argE 0 [en script1]) (defBody s_law) (f_law script1) (rtOut .frz) from
  (tb_loop (f := (f_law_l1 script1)) (e := (fun s1 : Unit => (se e0 0 (.vl .fz (en script1))))) (s0 := ()) (g := (gN 1)) (fun _ _ => rfl) (passes_of rfl) rfl (vi_eqm (m' := (rng3 (0 : Int) ((min2 (script1.length : Int) (24 : Int)) + (3 : Int)) (3 : Int))) (vi_rng3 (by rfl) (B.bi "range" (by decide)) (va_cons ve_int (va_cons (te_add (ve_ca ca_min2 gMin2 hMin2 (pe_callB (call_min2 rfl) (by rfl) (B.bi "min" (by decide)) (by decide +kernel) (va_cons (ve_ca ca_len gLen hLen (pe_callB call_len_seq (by rfl) (B.bi "len" (by decide)) (by decide +kernel) (va_cons (ve_v (pv 0) rfl) va_nil))) (va_cons ve_int va_nil)))) ve_int) (va_cons ve_int va_nil)))) (by first | with_reducible rfl | simp only [R.bind_eta, R.bind_assoc, R.okb, R.exb, R.nob, R.map_eq, q_gInt, q_gIntB, q_gLen, q_gLenT, q_gLenN, q_gAbs, q_gMax2, q_gMin2, q_gGcd, q_gSum, q_gAny, q_gAnyI, q_gMaxL, q_gLenF, q_cIsB, q_cNotB, q_gAll, q_gList, q_gListT, q_gTuple, q_gSorted, q_gSortedT, q_gRepr, q_cLt, q_cLe, q_cGt, q_cGe, q_cEq, q_cNe, q_cEqS, q_cNeS, q_cEqR, q_cNeR, q_cIsN, q_cIsS, q_cIn, q_cNi, q_cInR, q_cNiR, q_cInT, q_cNiT] | rfl)) (vg_name (pg_name (i := 1) nd rfl (by first | exact Or.inl rfl | exact Or.inr rfl))) (Le.se Le.e0 rfl)
  (fun x1_ s1 => (vb_set (ps_set (i := 5) nd rfl (by first | exact Or.inl rfl | exact Or.inr rfl) (ve_eq (m' := (((f_law_cell script1 (x1_ + (2 : Int))).bind fun x3 => R.ok x3).bind fun x4 => (modR x4 (5 : Int)))) (te_mod (ve_ca ca_int gInt hInt (pe_callTy call_int1 (by rfl) (B.bi "int" (by decide)) (by decide +kernel) (va_cons (ve_call c_law_cell hr (pass_fn (takes_of rfl rfl rfl rfl)) (va_cons (ve_v (pv 0) rfl) (va_cons (te_add (ve_v (pv 1) rfl) ve_int) va_nil))) va_nil))) ve_int) (by first | with_reducible rfl | simp only [R.bind_eta, R.bind_assoc, R.okb, R.exb, R.nob, R.map_eq, q_gInt, q_gIntB, q_gLen, q_gLenT, q_gLenN, q_gAbs, q_gMax2, q_gMin2, q_gGcd, q_gSum, q_gAny, q_gAnyI, q_gMaxL, q_gLenF, q_cIsB, q_cNotB, q_gAll, q_gList, q_gListT, q_gTuple, q_gSorted, q_gSortedT, q_gRepr, q_cLt, q_cLe, q_cGt, q_cGe, q_cEq, q_cNe, q_cEqS, q_cNeS, q_cEqR, q_cNeR, q_cIsN, q_cIsS, q_cIn, q_cNi, q_cInR, q_cNiR, q_cInT, q_cNiT] | rfl))) fun count5 =>
  (vb_set (ps_set (i := 6) nd rfl (by first | exact Or.inl rfl | exact Or.inr rfl) (ve_eq (m' := ((f_law_cell script1 x1_).bind fun x6 => (f_law_cell script1 (x1_ + (1 : Int))).bind fun x7 => (f_law_rows x6 x7 count5))) (ve_call c_law_rows hr (pass_fn (takes_of rfl rfl rfl rfl)) (va_cons (ve_call c_law_cell hr (pass_fn (takes_of rfl rfl rfl rfl)) (va_cons (ve_v (pv 0) rfl) (va_cons (ve_v (pv 1) rfl) va_nil))) (va_cons (ve_call c_law_cell hr (pass_fn (takes_of rfl rfl rfl rfl)) (va_cons (ve_v (pv 0) rfl) (va_cons (te_add (ve_v (pv 1) rfl) ve_int) va_nil))) (va_cons (ve_v (pv 5) rfl) va_nil)))) (by first | with_reducible rfl | simp only [R.bind_eta, R.bind_assoc, R.okb, R.exb, R.nob, R.map_eq, q_gInt, q_gIntB, q_gLen, q_gLenT, q_gLenN, q_gAbs, q_gMax2, q_gMin2, q_gGcd, q_gSum, q_gAny, q_gAnyI, q_gMaxL, q_gLenF, q_cIsB, q_cNotB, q_gAll, q_gList, q_gListT, q_gTuple, q_gSorted, q_gSortedT, q_gRepr, q_cLt, q_cLe, q_cGt, q_cGe, q_cEq, q_cNe, q_cEqS, q_cNeS, q_cEqR, q_cNeR, q_cIsN, q_cIsS, q_cIn, q_cNi, q_cInR, q_cNiR, q_cInT, q_cNiT] | rfl))) fun rows8 =>
  (vb_set (ps_set (i := 7) nd rfl (by first | exact Or.inl rfl | exact Or.inr rfl) (ve_eq (m' := (reprR (en rows8))) (ve_ca ca_repr gRepr hRepr (pe_callB (cr_repr hr.gds hr.rep) (by rfl) (B.bi "repr" (by decide)) (by decide +kernel) (va_cons (ve_v (pv 6) rfl) va_nil))) (by first | with_reducible rfl | simp only [R.bind_eta, R.bind_assoc, R.okb, R.exb, R.nob, R.map_eq, q_gInt, q_gIntB, q_gLen, q_gLenT, q_gLenN, q_gAbs, q_gMax2, q_gMin2, q_gGcd, q_gSum, q_gAny, q_gAnyI, q_gMaxL, q_gLenF, q_cIsB, q_cNotB, q_gAll, q_gList, q_gListT, q_gTuple, q_gSorted, q_gSortedT, q_gRepr, q_cLt, q_cLe, q_cGt, q_cGe, q_cEq, q_cNe, q_cEqS, q_cNeS, q_cEqR, q_cNeR, q_cIsN, q_cIsS, q_cIn, q_cNi, q_cInR, q_cNiR, q_cInT, q_cNiT] | rfl))) fun before9 =>
  (vb_setN (ps_set (i := 4) nd rfl (by first | exact Or.inl rfl | exact Or.inr rfl) (ve_eq (m' := (f_solve rows8 count5)) (ve_call c_solve hr (pass_fn (takes_of rfl rfl rfl rfl)) (va_cons (ve_v (pv 6) rfl) (va_cons (ve_v (pv 5) rfl) va_nil))) (by first | with_reducible rfl | simp only [R.bind_eta, R.bind_assoc, R.okb, R.exb, R.nob, R.map_eq, q_gInt, q_gIntB, q_gLen, q_gLenT, q_gLenN, q_gAbs, q_gMax2, q_gMin2, q_gGcd, q_gSum, q_gAny, q_gAnyI, q_gMaxL, q_gLenF, q_cIsB, q_cNotB, q_gAll, q_gList, q_gListT, q_gTuple, q_gSorted, q_gSortedT, q_gRepr, q_cLt, q_cLe, q_cGt, q_cGe, q_cEq, q_cNe, q_cEqS, q_cNeS, q_cEqR, q_cNeR, q_cIsN, q_cIsS, q_cIn, q_cNi, q_cInR, q_cNiR, q_cInT, q_cNiT] | rfl))) fun told10 =>
  (vb_ifA (vt_w (vw_or (vt_eq (t' := ((f_law_right rows8 count5 told10).bind fun x11 => R.ok (!x11))) (vt_not (vt_eq (t' := (f_law_right rows8 count5 told10)) (vt_val (ve_sc (ve_call c_law_right hr (pass_fn (takes_of rfl rfl rfl rfl)) (va_cons (ve_v (pv 6) rfl) (va_cons (ve_v (pv 5) rfl) (va_cons (ve_v (pv 4) rfl) va_nil)))))) (by first | with_reducible rfl | simp only [R.bind_eta, R.bind_assoc, R.okb, R.exb, R.nob, R.map_eq, q_gInt, q_gIntB, q_gLen, q_gLenT, q_gLenN, q_gAbs, q_gMax2, q_gMin2, q_gGcd, q_gSum, q_gAny, q_gAnyI, q_gMaxL, q_gLenF, q_cIsB, q_cNotB, q_gAll, q_gList, q_gListT, q_gTuple, q_gSorted, q_gSortedT, q_gRepr, q_cLt, q_cLe, q_cGt, q_cGe, q_cEq, q_cNe, q_cEqS, q_cNeS, q_cEqR, q_cNeR, q_cIsN, q_cIsS, q_cIn, q_cNi, q_cInR, q_cNiR, q_cInT, q_cNiT] | rfl))) (by first | with_reducible rfl | simp only [R.bind_eta, R.bind_assoc, R.okb, R.exb, R.nob, R.map_eq, q_gInt, q_gIntB, q_gLen, q_gLenT, q_gLenN, q_gAbs, q_gMax2, q_gMin2, q_gGcd, q_gSum, q_gAny, q_gAnyI, q_gMaxL, q_gLenF, q_cIsB, q_cNotB, q_gAll, q_gList, q_gListT, q_gTuple, q_gSorted, q_gSortedT, q_gRepr, q_cLt, q_cLe, q_cGt, q_cGe, q_cEq, q_cNe, q_cEqS, q_cNeS, q_cEqR, q_cNeR, q_cIsN, q_cIsS, q_cIn, q_cNi, q_cInR, q_cNiR, q_cInT, q_cNiT] | rfl)) (vw_or1 (vt_eq (t' := ((reprR (en rows8)).bind fun x12 => R.ok (decide (x12 ≠ before9)))) (vt_cmp (op_neA hr.room.units) o2_ne cNeS hNeS (ve_ca ca_repr gRepr hRepr (pe_callB (cr_repr hr.gds hr.rep) (by rfl) (B.bi "repr" (by decide)) (by decide +kernel) (va_cons (ve_v (pv 6) rfl) va_nil))) (ve_v (pv 7) rfl) (nomark _)) (by first | with_reducible rfl | simp only [R.bind_eta, R.bind_assoc, R.okb, R.exb, R.nob, R.map_eq, q_gInt, q_gIntB, q_gLen, q_gLenT, q_gLenN, q_gAbs, q_gMax2, q_gMin2, q_gGcd, q_gSum, q_gAny, q_gAnyI, q_gMaxL, q_gLenF, q_cIsB, q_cNotB, q_gAll, q_gList, q_gListT, q_gTuple, q_gSorted, q_gSortedT, q_gRepr, q_cLt, q_cLe, q_cGt, q_cGe, q_cEq, q_cNe, q_cEqS, q_cNeS, q_cEqR, q_cNeR, q_cIsN, q_cIsS, q_cIn, q_cNi, q_cInR, q_cNiR, q_cInT, q_cNiT] | rfl)))))
  (vb_retP (x := false) (ps_ret (ve_eq (m' := (R.ok false)) ve_bl (by rfl))))
  (vb_set (ps_set (i := 8) nd rfl (by first | exact Or.inl rfl | exact Or.inr rfl) (ve_eq (m' := (f_solve rows8 count5)) (ve_frz (ve_call c_solve hr (pass_fn (takes_of rfl rfl rfl rfl)) (va_cons (ve_v (pv 6) rfl) (va_cons (ve_v (pv 5) rfl) va_nil)))) (by first | with_reducible rfl | simp only [R.bind_eta, R.bind_assoc, R.okb, R.exb, R.nob, R.map_eq, q_gInt, q_gIntB, q_gLen, q_gLenT, q_gLenN, q_gAbs, q_gMax2, q_gMin2, q_gGcd, q_gSum, q_gAny, q_gAnyI, q_gMaxL, q_gLenF, q_cIsB, q_cNotB, q_gAll, q_gList, q_gListT, q_gTuple, q_gSorted, q_gSortedT, q_gRepr, q_cLt, q_cLe, q_cGt, q_cGe, q_cEq, q_cNe, q_cEqS, q_cNeS, q_cEqR, q_cNeR, q_cIsN, q_cIsS, q_cIn, q_cNi, q_cInR, q_cNiR, q_cInT, q_cNiT] | rfl))) fun again13 =>
  (tb_app (a := ((en told10) : D)) (s2 := .frz) (ps_expr (pe_bm PySem.F.plainAttrs_list PySem.F.slot_list_append PySem.F.type_list_append mt_append (vp_ixD (vp_v (pv 4)) ve_int (fun _ _ => rfl)) (pa_cons (ve_cast (β := D) en ve_int) pa_nil))) (by first | with_reducible rfl | simp only [R.bind_eta, R.bind_assoc, R.okb, R.exb, R.nob, R.map_eq, q_gInt, q_gIntB, q_gLen, q_gLenT, q_gLenN, q_gAbs, q_gMax2, q_gMin2, q_gGcd, q_gSum, q_gAny, q_gAnyI, q_gMaxL, q_gLenF, q_cIsB, q_cNotB, q_gAll, q_gList, q_gListT, q_gTuple, q_gSorted, q_gSortedT, q_gRepr, q_cLt, q_cLe, q_cGt, q_cGe, q_cEq, q_cNe, q_cEqS, q_cNeS, q_cEqR, q_cNeR, q_cIsN, q_cIsS, q_cIn, q_cNi, q_cInR, q_cNiR, q_cInT, q_cNiT] | rfl) fun told14 =>
  (vb_ifA (vt_w (vw_or (vt_eq (t' := ((f_law_right rows8 count5 again13).bind fun x15 => R.ok (!x15))) (vt_not (vt_eq (t' := (f_law_right rows8 count5 again13)) (vt_val (ve_call c_law_right hr (pass_fn (takes_of rfl rfl rfl rfl)) (va_cons (ve_v (pv 6) rfl) (va_cons (ve_v (pv 5) rfl) (va_cons (ve_v (pv 8) rfl) va_nil))))) (by first | with_reducible rfl | simp only [R.bind_eta, R.bind_assoc, R.okb, R.exb, R.nob, R.map_eq, q_gInt, q_gIntB, q_gLen, q_gLenT, q_gLenN, q_gAbs, q_gMax2, q_gMin2, q_gGcd, q_gSum, q_gAny, q_gAnyI, q_gMaxL, q_gLenF, q_cIsB, q_cNotB, q_gAll, q_gList, q_gListT, q_gTuple, q_gSorted, q_gSortedT, q_gRepr, q_cLt, q_cLe, q_cGt, q_cGe, q_cEq, q_cNe, q_cEqS, q_cNeS, q_cEqR, q_cNeR, q_cIsN, q_cIsS, q_cIn, q_cNi, q_cInR, q_cNiR, q_cInT, q_cNiT] | rfl))) (by first | with_reducible rfl | simp only [R.bind_eta, R.bind_assoc, R.okb, R.exb, R.nob, R.map_eq, q_gInt, q_gIntB, q_gLen, q_gLenT, q_gLenN, q_gAbs, q_gMax2, q_gMin2, q_gGcd, q_gSum, q_gAny, q_gAnyI, q_gMaxL, q_gLenF, q_cIsB, q_cNotB, q_gAll, q_gList, q_gListT, q_gTuple, q_gSorted, q_gSortedT, q_gRepr, q_cLt, q_cLe, q_cGt, q_cGe, q_cEq, q_cNe, q_cEqS, q_cNeS, q_cEqR, q_cNeR, q_cIsN, q_cIsS, q_cIn, q_cNi, q_cInR, q_cNiR, q_cInT, q_cNiT] | rfl)) (vw_or (vt_eq (t' := (((f_solve rows8 count5).bind fun x16 => (f_law_right rows8 count5 x16)).bind fun x17 => R.ok (!x17))) (vt_not (vt_eq (t' := ((f_solve rows8 count5).bind fun x16 => (f_law_right rows8 count5 x16))) (vt_val (ve_call c_law_right hr (pass_fn (takes_of rfl rfl rfl rfl)) (va_cons (ve_v (pv 6) rfl) (va_cons (ve_v (pv 5) rfl) (va_cons (ve_frz (ve_call c_solve hr (pass_fn (takes_of rfl rfl rfl rfl)) (va_cons (ve_v (pv 6) rfl) (va_cons (ve_v (pv 5) rfl) va_nil)))) va_nil))))) (by first | with_reducible rfl | simp only [R.bind_eta, R.bind_assoc, R.okb, R.exb, R.nob, R.map_eq, q_gInt, q_gIntB, q_gLen, q_gLenT, q_gLenN, q_gAbs, q_gMax2, q_gMin2, q_gGcd, q_gSum, q_gAny, q_gAnyI, q_gMaxL, q_gLenF, q_cIsB, q_cNotB, q_gAll, q_gList, q_gListT, q_gTuple, q_gSorted, q_gSortedT, q_gRepr, q_cLt, q_cLe, q_cGt, q_cGe, q_cEq, q_cNe, q_cEqS, q_cNeS, q_cEqR, q_cNeR, q_cIsN, q_cIsS, q_cIn, q_cNi, q_cInR, q_cNiR, q_cInT, q_cNiT] | rfl))) (by first | with_reducible rfl | simp only [R.bind_eta, R.bind_assoc, R.okb, R.exb, R.nob, R.map_eq, q_gInt, q_gIntB, q_gLen, q_gLenT, q_gLenN, q_gAbs, q_gMax2, q_gMin2, q_gGcd, q_gSum, q_gAny, q_gAnyI, q_gMaxL, q_gLenF, q_cIsB, q_cNotB, q_gAll, q_gList, q_gListT, q_gTuple, q_gSorted, q_gSortedT, q_gRepr, q_cLt, q_cLe, q_cGt, q_cGe, q_cEq, q_cNe, q_cEqS, q_cNeS, q_cEqR, q_cNeR, q_cIsN, q_cIsS, q_cIn, q_cNi, q_cInR, q_cNiR, q_cInT, q_cNiT] | rfl)) (vw_or1 (vt_eq (t' := ((reprR (en rows8)).bind fun x18 => R.ok (decide (x18 ≠ before9)))) (vt_cmp (op_neA hr.room.units) o2_ne cNeS hNeS (ve_ca ca_repr gRepr hRepr (pe_callB (cr_repr hr.gds hr.rep) (by rfl) (B.bi "repr" (by decide)) (by decide +kernel) (va_cons (ve_v (pv 6) rfl) va_nil))) (ve_v (pv 7) rfl) (nomark _)) (by first | with_reducible rfl | simp only [R.bind_eta, R.bind_assoc, R.okb, R.exb, R.nob, R.map_eq, q_gInt, q_gIntB, q_gLen, q_gLenT, q_gLenN, q_gAbs, q_gMax2, q_gMin2, q_gGcd, q_gSum, q_gAny, q_gAnyI, q_gMaxL, q_gLenF, q_cIsB, q_cNotB, q_gAll, q_gList, q_gListT, q_gTuple, q_gSorted, q_gSortedT, q_gRepr, q_cLt, q_cLe, q_cGt, q_cGe, q_cEq, q_cNe, q_cEqS, q_cNeS, q_cEqR, q_cNeR, q_cIsN, q_cIsS, q_cIn, q_cNi, q_cInR, q_cNiR, q_cInT, q_cNiT] | rfl))))))
  (vb_retP (x := false) (ps_ret (ve_eq (m' := (R.ok false)) ve_bl (by rfl))))
  (vb_set (ps_set (i := 9) nd rfl (by first | exact Or.inl rfl | exact Or.inr rfl) (ve_eq (m' := ((((f_law_cell script1 (x1_ + (2 : Int))).bind fun x19 => R.ok x19).bind fun x20 => (modR x20 (1000 : Int))).bind fun x21 => R.ok ((1 : Int) + x21))) (te_add ve_int (te_mod (ve_ca ca_int gInt hInt (pe_callTy call_int1 (by rfl) (B.bi "int" (by decide)) (by decide +kernel) (va_cons (ve_call c_law_cell hr (pass_fn (takes_of rfl rfl rfl rfl)) (va_cons (ve_v (pv 0) rfl) (va_cons (te_add (ve_v (pv 1) rfl) ve_int) va_nil))) va_nil))) ve_int)) (by first | with_reducible rfl | simp only [R.bind_eta, R.bind_assoc, R.okb, R.exb, R.nob, R.map_eq, q_gInt, q_gIntB, q_gLen, q_gLenT, q_gLenN, q_gAbs, q_gMax2, q_gMin2, q_gGcd, q_gSum, q_gAny, q_gAnyI, q_gMaxL, q_gLenF, q_cIsB, q_cNotB, q_gAll, q_gList, q_gListT, q_gTuple, q_gSorted, q_gSortedT, q_gRepr, q_cLt, q_cLe, q_cGt, q_cGe, q_cEq, q_cNe, q_cEqS, q_cNeS, q_cEqR, q_cNeR, q_cIsN, q_cIsS, q_cIn, q_cNi, q_cInR, q_cNiR, q_cInT, q_cNiT] | rfl))) fun far22 =>
  (vb_set (ps_set (i := 10) nd rfl (by first | exact Or.inl rfl | exact Or.inr rfl) (ve_eq (m' := (modR far22 ((rows8.length : Int) + (1 : Int)))) (te_mod (ve_ca ca_int gInt hInt (pe_callTy call_int1 (by rfl) (B.bi "int" (by decide)) (by decide +kernel) (va_cons (ve_v (pv 9) rfl) va_nil))) (te_add (ve_ca ca_len gLen hLen (pe_callB call_len_seq (by rfl) (B.bi "len" (by decide)) (by decide +kernel) (va_cons (ve_v (pv 6) rfl) va_nil))) ve_int)) (by first | with_reducible rfl | simp only [R.bind_eta, R.bind_assoc, R.okb, R.exb, R.nob, R.map_eq, q_gInt, q_gIntB, q_gLen, q_gLenT, q_gLenN, q_gAbs, q_gMax2, q_gMin2, q_gGcd, q_gSum, q_gAny, q_gAnyI, q_gMaxL, q_gLenF, q_cIsB, q_cNotB, q_gAll, q_gList, q_gListT, q_gTuple, q_gSorted, q_gSortedT, q_gRepr, q_cLt, q_cLe, q_cGt, q_cGe, q_cEq, q_cNe, q_cEqS, q_cNeS, q_cEqR, q_cNeR, q_cIsN, q_cIsS, q_cIn, q_cNi, q_cInR, q_cNiR, q_cInT, q_cNiT] | rfl))) fun at'23 =>
  (vb_set (ps_set (i := 11) nd rfl (by first | exact Or.inl rfl | exact Or.inr rfl) (ve_eq (m' := ((repR ([(0 : Int)] : List Int) count5).bind fun x24 => (catR ([(1 : Int)] : List Int) x24))) (ve_frz (te_cat (ve_frz (ve_lst (s := .frz) (fun (x : (Int × Unit)) => ([x.1] : List Int)) (va_cons ve_int va_nil))) (ve_frz (te_rep (ve_frz (ve_lst (s := .frz) (fun (x : (Int × Unit)) => ([x.1] : List Int)) (va_cons ve_int va_nil))) (ve_v (pv 5) rfl))))) (by first | with_reducible rfl | simp only [R.bind_eta, R.bind_assoc, R.okb, R.exb, R.nob, R.map_eq, q_gInt, q_gIntB, q_gLen, q_gLenT, q_gLenN, q_gAbs, q_gMax2, q_gMin2, q_gGcd, q_gSum, q_gAny, q_gAnyI, q_gMaxL, q_gLenF, q_cIsB, q_cNotB, q_gAll, q_gList, q_gListT, q_gTuple, q_gSorted, q_gSortedT, q_gRepr, q_cLt, q_cLe, q_cGt, q_cGe, q_cEq, q_cNe, q_cEqS, q_cNeS, q_cEqR, q_cNeR, q_cIsN, q_cIsS, q_cIn, q_cNi, q_cInR, q_cNiR, q_cInT, q_cNiT] | rfl))) fun good25 =>
  (tb_loop (f := (f_law_l2 script1)) (e := (fun s2 : Unit => (se e0 0 (.vl .fz (en script1))))) (s0 := ()) (g := (gN 12)) (fun _ _ => rfl) (passes_of rfl) rfl (vi_eqm (m' := (((((modR far22 (3 : Int)).bind fun x34 => R.ok ((1 : Int) + x34)).bind fun x35 => (repR ([([] : List Int)] : List (List Int)) x35)).bind fun x36 => R.ok (x36, (-(1 : Int)))).bind fun x45 => (((((catR good25 ([(1 : Int)] : List Int)).bind fun x37 => R.ok ([x37] : List (List Int))).bind fun x38 => (catR (cutL rows8 none (some at'23)) x38)).bind fun x39 => (catR x39 (cutL rows8 (some at'23) none))).bind fun x40 => R.ok (x40, count5)).bind fun x46 => (((catR (cutL rows8 none (some at'23)) ([(cutL good25 (some (1 : Int)) none)] : List (List Int))).bind fun x41 => (catR x41 (cutL rows8 (some at'23) none))).bind fun x42 => R.ok (x42, count5)).bind fun x47 => (((catR (cutL rows8 none (some at'23)) ([([] : List Int)] : List (List Int))).bind fun x43 => (catR x43 (cutL rows8 (some at'23) none))).bind fun x44 => R.ok (x44, count5)).bind fun x48 => R.ok ([x45, (rows8, (-far22)), x46, x47, x48] : List ((List (List Int)) × Int)))) (vi_list (ve_frz (ve_lst (s := .frz) (fun (x : (((List (List Int)) × Int) × ((List (List Int)) × Int) × ((List (List Int)) × Int) × ((List (List Int)) × Int) × ((List (List Int)) × Int) × Unit)) => ([x.1, x.2.1, x.2.2.1, x.2.2.2.1, x.2.2.2.2.1] : List ((List (List Int)) × Int))) (va_cons (ve_frz (ve_tup (s := .frz) (fun (x : ((List (List Int)) × Int × Unit)) => ((x.1, x.2.1) : ((List (List Int)) × Int))) (va_cons (ve_frz (te_rep (ve_frz (ve_lst (s := .frz) (fun (x : ((List Int) × Unit)) => ([x.1] : List (List Int))) (va_cons (ve_frz (ve_lst (s := .frz) (fun (x : (Unit)) => ([] : List Int)) va_nil)) va_nil))) (te_add ve_int (te_mod (ve_ca ca_int gInt hInt (pe_callTy call_int1 (by rfl) (B.bi "int" (by decide)) (by decide +kernel) (va_cons (ve_v (pv 9) rfl) va_nil))) ve_int)))) (va_cons (te_neg ve_int) va_nil)))) (va_cons (ve_frz (ve_tup (s := .frz) (fun (x : ((List (List Int)) × Int × Unit)) => ((x.1, x.2.1) : ((List (List Int)) × Int))) (va_cons (ve_v (pv 6) rfl) (va_cons (te_neg (ve_v (pv 9) rfl)) va_nil)))) (va_cons (ve_frz (ve_tup (s := .frz) (fun (x : ((List (List Int)) × Int × Unit)) => ((x.1, x.2.1) : ((List (List Int)) × Int))) (va_cons (ve_frz (te_cat (ve_frz (te_cat (ve_frz (vn_sl (ve_v (pv 6) rfl) vo_none (vo_some (ve_v (pv 10) rfl)))) (ve_frz (ve_lst (s := .frz) (fun (x : ((List Int) × Unit)) => ([x.1] : List (List Int))) (va_cons (ve_frz (te_cat (ve_v (pv 11) rfl) (ve_frz (ve_lst (s := .frz) (fun (x : (Int × Unit)) => ([x.1] : List Int)) (va_cons ve_int va_nil))))) va_nil))))) (ve_frz (vn_sl (ve_v (pv 6) rfl) (vo_some (ve_v (pv 10) rfl)) vo_none)))) (va_cons (ve_v (pv 5) rfl) va_nil)))) (va_cons (ve_frz (ve_tup (s := .frz) (fun (x : ((List (List Int)) × Int × Unit)) => ((x.1, x.2.1) : ((List (List Int)) × Int))) (va_cons (ve_frz (te_cat (ve_frz (te_cat (ve_frz (vn_sl (ve_v (pv 6) rfl) vo_none (vo_some (ve_v (pv 10) rfl)))) (ve_frz (ve_lst (s := .frz) (fun (x : ((List Int) × Unit)) => ([x.1] : List (List Int))) (va_cons (ve_frz (vn_sl (ve_v (pv 11) rfl) (vo_some ve_int) vo_none)) va_nil))))) (ve_frz (vn_sl (ve_v (pv 6) rfl) (vo_some (ve_v (pv 10) rfl)) vo_none)))) (va_cons (ve_v (pv 5) rfl) va_nil)))) (va_cons (ve_frz (ve_tup (s := .frz) (fun (x : ((List (List Int)) × Int × Unit)) => ((x.1, x.2.1) : ((List (List Int)) × Int))) (va_cons (ve_frz (te_cat (ve_frz (te_cat (ve_frz (vn_sl (ve_v (pv 6) rfl) vo_none (vo_some (ve_v (pv 10) rfl)))) (ve_frz (ve_lst (s := .frz) (fun (x : ((List Int) × Unit)) => ([x.1] : List (List Int))) (va_cons (ve_frz (ve_lst (s := .frz) (fun (x : (Unit)) => ([] : List Int)) va_nil)) va_nil))))) (ve_frz (vn_sl (ve_v (pv 6) rfl) (vo_some (ve_v (pv 10) rfl)) vo_none)))) (va_cons (ve_v (pv 5) rfl) va_nil)))) va_nil)))))))) (by first | with_reducible rfl | simp only [R.bind_eta, R.bind_assoc, R.okb, R.exb, R.nob, R.map_eq, q_gInt, q_gIntB, q_gLen, q_gLenT, q_gLenN, q_gAbs, q_gMax2, q_gMin2, q_gGcd, q_gSum, q_gAny, q_gAnyI, q_gMaxL, q_gLenF, q_cIsB, q_cNotB, q_gAll, q_gList, q_gListT, q_gTuple, q_gSorted, q_gSortedT, q_gRepr, q_cLt, q_cLe, q_cGt, q_cGe, q_cEq, q_cNe, q_cEqS, q_cNeS, q_cEqR, q_cNeR, q_cIsN, q_cIsS, q_cIn, q_cNi, q_cInR, q_cNiR, q_cInT, q_cNiT] | rfl)) (vg_name (pg_name (i := 12) nd rfl (by first | exact Or.inl rfl | exact Or.inr rfl))) (Le.se Le.e0 rfl)
  (fun x2_ s2 => (vb_if (vt_eq (t' := ((f_law_refused x2_.1 x2_.2).bind fun x50 => R.ok (!x50))) (vt_not (vt_eq (t' := (f_law_refused x2_.1 x2_.2)) (vt_val (ve_call c_law_refused hr (pass_fn (takes_of rfl rfl rfl rfl)) (va_cons (te_prj (fun x : ((List (List Int)) × Int) => x.1) (ve_v (pv 12) rfl) ve_int) (va_cons (te_prj (fun x : ((List (List Int)) × Int) => x.2) (ve_v (pv 12) rfl) ve_int) va_nil)))) (by first | with_reducible rfl | simp only [R.bind_eta, R.bind_assoc, R.okb, R.exb, R.nob, R.map_eq, q_gInt, q_gIntB, q_gLen, q_gLenT, q_gLenN, q_gAbs, q_gMax2, q_gMin2, q_gGcd, q_gSum, q_gAny, q_gAnyI, q_gMaxL, q_gLenF, q_cIsB, q_cNotB, q_gAll, q_gList, q_gListT, q_gTuple, q_gSorted, q_gSortedT, q_gRepr, q_cLt, q_cLe, q_cGt, q_cGe, q_cEq, q_cNe, q_cEqS, q_cNeS, q_cEqR, q_cNeR, q_cIsN, q_cIsS, q_cIn, q_cNi, q_cInR, q_cNiR, q_cInT, q_cNiT] | rfl))) (by first | with_reducible rfl | simp only [R.bind_eta, R.bind_assoc, R.okb, R.exb, R.nob, R.map_eq, q_gInt, q_gIntB, q_gLen, q_gLenT, q_gLenN, q_gAbs, q_gMax2, q_gMin2, q_gGcd, q_gSum, q_gAny, q_gAnyI, q_gMaxL, q_gLenF, q_cIsB, q_cNotB, q_gAll, q_gList, q_gListT, q_gTuple, q_gSorted, q_gSortedT, q_gRepr, q_cLt, q_cLe, q_cGt, q_cGe, q_cEq, q_cNe, q_cEqS, q_cNeS, q_cEqR, q_cNeR, q_cIsN, q_cIsS, q_cIn, q_cNi, q_cInR, q_cNiR, q_cInT, q_cNiT] | rfl))
  (vb_retP (x := false) (ps_ret (ve_eq (m' := (R.ok false)) ve_bl (by rfl))))
  (vb_nilC (b := (Lc.nx ())) rfl (Le.se Le.e0 rfl))))
  fun s2' => (vb_nilC (b := (Lc.nx ())) rfl (Le.se Le.e0 rfl)))))))))))))))
  fun s1' => (vb_set (ps_set (i := 2) nd rfl (by first | exact Or.inl rfl | exact Or.inr rfl) (ve_eq (m' := ((((f_law_cell script1 (0 : Int)).bind fun x53 => R.ok x53).bind fun x54 => (modR x54 (8 : Int))).bind fun x55 => R.ok ((5 : Int) + x55))) (te_add ve_int (te_mod (ve_ca ca_int gInt hInt (pe_callTy call_int1 (by rfl) (B.bi "int" (by decide)) (by decide +kernel) (va_cons (ve_call c_law_cell hr (pass_fn (takes_of rfl rfl rfl rfl)) (va_cons (ve_v (pv 0) rfl) (va_cons ve_int va_nil))) va_nil))) ve_int)) (by first | with_reducible rfl | simp only [R.bind_eta, R.bind_assoc, R.okb, R.exb, R.nob, R.map_eq, q_gInt, q_gIntB, q_gLen, q_gLenT, q_gLenN, q_gAbs, q_gMax2, q_gMin2, q_gGcd, q_gSum, q_gAny, q_gAnyI, q_gMaxL, q_gLenF, q_cIsB, q_cNotB, q_gAll, q_gList, q_gListT, q_gTuple, q_gSorted, q_gSortedT, q_gRepr, q_cLt, q_cLe, q_cGt, q_cGe, q_cEq, q_cNe, q_cEqS, q_cNeS, q_cEqR, q_cNeR, q_cIsN, q_cIsS, q_cIn, q_cNi, q_cInR, q_cNiR, q_cInT, q_cNiT] | rfl))) fun many56 =>
  (vb_set (ps_eqm (m' := ((rng1 many56).bind fun x61 => (noX (mapR (fun v57 : Int => (((rng1 many56).bind fun x59 => R.ok (x59.map (fun v58 : Int => (if (decide (v58 = v57)) then (1 : Int) else 0)))).bind fun x60 => (catR ([(-v57)] : List Int) x60))) x61)))) (ps_frz (ts_lc (i := 3) (own := [("_law_k", 1)]) (g := (gN 1)) lcM rfl nd rfl rfl (sw_true rfl rfl rfl (by decide +kernel)) (vi_rng1 (by rfl) (B.bi "range" (by decide)) (va_cons (ve_v (pv 2) rfl) va_nil)) (blkOk_by (N := ["_law_script", "_law_k", "_law_many", "_law_bounds", "_law_told", "_law_count", "_law_rows_here", "_law_before", "_law_again", "_law_far", "_law_at", "_law_good", "_law_bad", "_law_j"]) (sc := defScope s_law) (by decide +kernel)) (fun _ _ _ _ _ => (vg_name (pg_name (i := 1) nd rfl (by first | exact Or.inl rfl | exact Or.inr rfl)))) (fun _ => rfl) (fun (v57 : Int) _ _ _ _ _ => vts_nil) (fun (v57 : Int) _ _ _ _ _ => (ve_eq (m' := (((rng1 many56).bind fun x59 => R.ok (x59.map (fun v58 : Int => (if (decide (v58 = v57)) then (1 : Int) else 0)))).bind fun x60 => (catR ([(-v57)] : List Int) x60))) (ve_frz (te_cat (ve_frz (ve_lst (s := .frz) (fun (x : (Int × Unit)) => ([x.1] : List Int)) (va_cons (te_neg (ve_v (pv 1) rfl)) va_nil))) (ve_frz (te_lc (own := [("_law_j", 13)]) (g := (gN 13)) lcP rfl nd (vi_rng1 (by rfl) (B.bi "range" (by decide)) (va_cons (ve_v (pv 2) rfl) va_nil)) (blkOk_by (by rfl)) (fun _ _ _ _ _ => (vg_name (pg_name (i := 13) nd rfl (by first | exact Or.inl rfl | exact Or.inr rfl)))) (fun _ => rfl) (fun (v58 : Int) _ _ _ _ _ => vts_nil) (fun (v58 : Int) _ _ _ _ _ => (ve_eq (m' := (R.ok (if (decide (v58 = v57)) then (1 : Int) else 0))) (ve_ca ca_int gIntB hIntB (pe_callTy call_int1 (by rfl) (B.bi "int" (by decide)) (by decide +kernel) (va_cons (ve_cmp (op_eqA hr.room.units) o2_eq cEq (hEq) (ve_v (pv 13) rfl) (ve_v (pv 1) rfl) (nomark _)) va_nil))) (by rfl))))))) (by first | with_reducible rfl | simp only [R.bind_eta, R.bind_assoc, R.okb, R.exb, R.nob, R.map_eq, q_gInt, q_gIntB, q_gLen, q_gLenT, q_gLenN, q_gAbs, q_gMax2, q_gMin2, q_gGcd, q_gSum, q_gAny, q_gAnyI, q_gMaxL, q_gLenF, q_cIsB, q_cNotB, q_gAll, q_gList, q_gListT, q_gTuple, q_gSorted, q_gSortedT, q_gRepr, q_cLt, q_cLe, q_cGt, q_cGe, q_cEq, q_cNe, q_cEqS, q_cNeS, q_cEqR, q_cNeR, q_cIsN, q_cIsS, q_cIn, q_cNi, q_cInR, q_cNiR, q_cInT, q_cNiT] | rfl))))) (by first | with_reducible rfl | simp only [R.bind_eta, R.bind_assoc, R.okb, R.exb, R.nob, R.map_eq, q_gInt, q_gIntB, q_gLen, q_gLenT, q_gLenN, q_gAbs, q_gMax2, q_gMin2, q_gGcd, q_gSum, q_gAny, q_gAnyI, q_gMaxL, q_gLenF, q_cIsB, q_cNotB, q_gAll, q_gList, q_gListT, q_gTuple, q_gSorted, q_gSortedT, q_gRepr, q_cLt, q_cLe, q_cGt, q_cGe, q_cEq, q_cNe, q_cEqS, q_cNeS, q_cEqR, q_cNeR, q_cIsN, q_cIsS, q_cIn, q_cNi, q_cInR, q_cNiR, q_cInT, q_cNiT] | rfl)) fun bounds62 =>
  (vb_ifA (vt_eq (t' := (((f_solve bounds62 many56).bind fun x63 => (f_law_satisfied bounds62 many56 x63)).bind fun x64 => R.ok (!x64))) (vt_not (vt_eq (t' := ((f_solve bounds62 many56).bind fun x63 => (f_law_satisfied bounds62 many56 x63))) (vt_val (ve_call c_law_satisfied hr (pass_fn (takes_of rfl rfl rfl rfl)) (va_cons (ve_v (pv 3) rfl) (va_cons (ve_v (pv 2) rfl) (va_cons (ve_frz (ve_call c_solve hr (pass_fn (takes_of rfl rfl rfl rfl)) (va_cons (ve_v (pv 3) rfl) (va_cons (ve_v (pv 2) rfl) va_nil)))) va_nil))))) (by first | with_reducible rfl | simp only [R.bind_eta, R.bind_assoc, R.okb, R.exb, R.nob, R.map_eq, q_gInt, q_gIntB, q_gLen, q_gLenT, q_gLenN, q_gAbs, q_gMax2, q_gMin2, q_gGcd, q_gSum, q_gAny, q_gAnyI, q_gMaxL, q_gLenF, q_cIsB, q_cNotB, q_gAll, q_gList, q_gListT, q_gTuple, q_gSorted, q_gSortedT, q_gRepr, q_cLt, q_cLe, q_cGt, q_cGe, q_cEq, q_cNe, q_cEqS, q_cNeS, q_cEqR, q_cNeR, q_cIsN, q_cIsS, q_cIn, q_cNi, q_cInR, q_cNiR, q_cInT, q_cNiT] | rfl))) (by first | with_reducible rfl | simp only [R.bind_eta, R.bind_assoc, R.okb, R.exb, R.nob, R.map_eq, q_gInt, q_gIntB, q_gLen, q_gLenT, q_gLenN, q_gAbs, q_gMax2, q_gMin2, q_gGcd, q_gSum, q_gAny, q_gAnyI, q_gMaxL, q_gLenF, q_cIsB, q_cNotB, q_gAll, q_gList, q_gListT, q_gTuple, q_gSorted, q_gSortedT, q_gRepr, q_cLt, q_cLe, q_cGt, q_cGe, q_cEq, q_cNe, q_cEqS, q_cNeS, q_cEqR, q_cNeR, q_cIsN, q_cIsS, q_cIn, q_cNi, q_cInR, q_cNiR, q_cInT, q_cNiT] | rfl))
  (vb_retP (x := false) (ps_ret (ve_eq (m' := (R.ok false)) ve_bl (by rfl))))
  (vb_setN (ps_set (i := 4) nd rfl (by first | exact Or.inl rfl | exact Or.inr rfl) (ve_eq (m' := (((((repR ([(-(1 : Int))] : List Int) many56).bind fun x69 => (catR ([(-(1 : Int))] : List Int) x69)).bind fun x70 => R.ok ([x70] : List (List Int))).bind fun x71 => (catR bounds62 x71)).bind fun x72 => (f_solve x72 many56))) (ve_call c_solve hr (pass_fn (takes_of rfl rfl rfl rfl)) (va_cons (ve_frz (te_cat (ve_v (pv 3) rfl) (ve_frz (ve_lst (s := .frz) (fun (x : ((List Int) × Unit)) => ([x.1] : List (List Int))) (va_cons (ve_frz (te_cat (ve_frz (ve_lst (s := .frz) (fun (x : (Int × Unit)) => ([x.1] : List Int)) (va_cons (te_neg ve_int) va_nil))) (ve_frz (te_rep (ve_frz (ve_lst (s := .frz) (fun (x : (Int × Unit)) => ([x.1] : List Int)) (va_cons (te_neg ve_int) va_nil))) (ve_v (pv 2) rfl))))) va_nil))))) (va_cons (ve_v (pv 2) rfl) va_nil))) (by first | with_reducible rfl | simp only [R.bind_eta, R.bind_assoc, R.okb, R.exb, R.nob, R.map_eq, q_gInt, q_gIntB, q_gLen, q_gLenT, q_gLenN, q_gAbs, q_gMax2, q_gMin2, q_gGcd, q_gSum, q_gAny, q_gAnyI, q_gMaxL, q_gLenF, q_cIsB, q_cNotB, q_gAll, q_gList, q_gListT, q_gTuple, q_gSorted, q_gSortedT, q_gRepr, q_cLt, q_cLe, q_cGt, q_cGe, q_cEq, q_cNe, q_cEqS, q_cNeS, q_cEqR, q_cNeR, q_cIsN, q_cIsS, q_cIn, q_cNi, q_cInR, q_cNiR, q_cInT, q_cNiT] | rfl))) fun told73 =>
  (vb_ifA (vt_w (vw_or (vt_eq (t' := (R.ok (decide (told73.word ≠ ("no" : Str))))) (vt_cmp (op_neA hr.room.units) o2_ne cNeS hNeS (ve_sc (te_prj (fun x : SolA => x.word) (ve_v (pv 4) rfl) ve_int SolA.hw)) ve_str (nomark _)) (by rfl)) (vw_or1 (vt_eq (t' := ((((((repR ([(-(1 : Int))] : List Int) many56).bind fun x77 => (catR ([(-(1 : Int))] : List Int) x77)).bind fun x78 => R.ok ([x78] : List (List Int))).bind fun x79 => (catR bounds62 x79)).bind fun x80 => (SolA.no1 told73).bind fun x81 => (f_law_is_refusal x80 x81)).bind fun x82 => R.ok (!x82))) (vt_not (vt_eq (t' := (((((repR ([(-(1 : Int))] : List Int) many56).bind fun x77 => (catR ([(-(1 : Int))] : List Int) x77)).bind fun x78 => R.ok ([x78] : List (List Int))).bind fun x79 => (catR bounds62 x79)).bind fun x80 => (SolA.no1 told73).bind fun x81 => (f_law_is_refusal x80 x81))) (vt_val (ve_sc (ve_call c_law_is_refusal hr (pass_fn (takes_of rfl rfl rfl rfl)) (va_cons (ve_frz (te_cat (ve_v (pv 3) rfl) (ve_frz (ve_lst (s := .frz) (fun (x : ((List Int) × Unit)) => ([x.1] : List (List Int))) (va_cons (ve_frz (te_cat (ve_frz (ve_lst (s := .frz) (fun (x : (Int × Unit)) => ([x.1] : List Int)) (va_cons (te_neg ve_int) va_nil))) (ve_frz (te_rep (ve_frz (ve_lst (s := .frz) (fun (x : (Int × Unit)) => ([x.1] : List Int)) (va_cons (te_neg ve_int) va_nil))) (ve_v (pv 2) rfl))))) va_nil))))) (va_cons (te_prjR SolA.no1 (ve_v (pv 4) rfl) ve_int SolA.no1_h) va_nil))))) (by first | with_reducible rfl | simp only [R.bind_eta, R.bind_assoc, R.okb, R.exb, R.nob, R.map_eq, q_gInt, q_gIntB, q_gLen, q_gLenT, q_gLenN, q_gAbs, q_gMax2, q_gMin2, q_gGcd, q_gSum, q_gAny, q_gAnyI, q_gMaxL, q_gLenF, q_cIsB, q_cNotB, q_gAll, q_gList, q_gListT, q_gTuple, q_gSorted, q_gSortedT, q_gRepr, q_cLt, q_cLe, q_cGt, q_cGe, q_cEq, q_cNe, q_cEqS, q_cNeS, q_cEqR, q_cNeR, q_cIsN, q_cIsS, q_cIn, q_cNi, q_cInR, q_cNiR, q_cInT, q_cNiT] | rfl))) (by first | with_reducible rfl | simp only [R.bind_eta, R.bind_assoc, R.okb, R.exb, R.nob, R.map_eq, q_gInt, q_gIntB, q_gLen, q_gLenT, q_gLenN, q_gAbs, q_gMax2, q_gMin2, q_gGcd, q_gSum, q_gAny, q_gAnyI, q_gMaxL, q_gLenF, q_cIsB, q_cNotB, q_gAll, q_gList, q_gListT, q_gTuple, q_gSorted, q_gSortedT, q_gRepr, q_cLt, q_cLe, q_cGt, q_cGe, q_cEq, q_cNe, q_cEqS, q_cNeS, q_cEqR, q_cNeR, q_cIsN, q_cIsS, q_cIn, q_cNi, q_cInR, q_cNiR, q_cInT, q_cNiT] | rfl)))))
  (vb_retP (x := false) (ps_ret (ve_eq (m' := (R.ok false)) ve_bl (by rfl))))
  (vb_ret0 (ps_ret (ve_eq (m' := (andR ((f_solve ([] : List (List Int)) (0 : Int)).bind fun x83 => (eqD (en x83) (en (SolA.yes ([] : List (Int × Int)))))) (andR ((f_solve ([([(-(3 : Int))] : List Int)] : List (List Int)) (0 : Int)).bind fun x84 => (eqD (en x84) (en (SolA.no ([(1 : Int)] : List Int))))) ((f_solve ([([(0 : Int)] : List Int)] : List (List Int)) (0 : Int)).bind fun x85 => (eqD (en x85) (en (SolA.yes ([] : List (Int × Int))))))))) (ve_and (ve_eq (m' := ((f_solve ([] : List (List Int)) (0 : Int)).bind fun x83 => (eqD (en x83) (en (SolA.yes ([] : List (Int × Int))))))) (ve_cmp (op_eqA hr.room.units) o2_eq cEqR hEqR (ve_frz (ve_call c_solve hr (pass_fn (takes_of rfl rfl rfl rfl)) (va_cons (ve_frz (ve_lst (s := .frz) (fun (x : (Unit)) => ([] : List (List Int))) va_nil)) (va_cons ve_int va_nil)))) (ve_frz (ve_eq (m' := (R.ok (SolA.yes ([] : List (Int × Int))))) (ve_castR SolA.mkyes (ve_tup (s := .frz) (fun (x : (Str × (List (Int × Int)) × Unit)) => ((x.1, x.2.1) : (Str × (List (Int × Int))))) (va_cons ve_str (va_cons (ve_frz (ve_lst (s := .frz) (fun (x : (Unit)) => ([] : List (Int × Int))) va_nil)) va_nil))) SolA.mkyes_h) (by first | exact SolA.mkyes_ok _ | simp only [R.bind_eta, R.bind_assoc, R.okb, R.exb, R.nob, R.map_eq, q_gInt, q_gIntB, q_gLen, q_gLenT, q_gLenN, q_gAbs, q_gMax2, q_gMin2, q_gGcd, q_gSum, q_gAny, q_gAnyI, q_gMaxL, q_gLenF, q_cIsB, q_cNotB, q_gAll, q_gList, q_gListT, q_gTuple, q_gSorted, q_gSortedT, q_gRepr, q_cLt, q_cLe, q_cGt, q_cGe, q_cEq, q_cNe, q_cEqS, q_cNeS, q_cEqR, q_cNeR, q_cIsN, q_cIsS, q_cIn, q_cNi, q_cInR, q_cNiR, q_cInT, q_cNiT, SolA.mkyes_ok]))) (nomark _)) (by first | with_reducible rfl | simp only [R.bind_eta, R.bind_assoc, R.okb, R.exb, R.nob, R.map_eq, q_gInt, q_gIntB, q_gLen, q_gLenT, q_gLenN, q_gAbs, q_gMax2, q_gMin2, q_gGcd, q_gSum, q_gAny, q_gAnyI, q_gMaxL, q_gLenF, q_cIsB, q_cNotB, q_gAll, q_gList, q_gListT, q_gTuple, q_gSorted, q_gSortedT, q_gRepr, q_cLt, q_cLe, q_cGt, q_cGe, q_cEq, q_cNe, q_cEqS, q_cNeS, q_cEqR, q_cNeR, q_cIsN, q_cIsS, q_cIn, q_cNi, q_cInR, q_cNiR, q_cInT, q_cNiT] | rfl)) (ve_and (ve_eq (m' := ((f_solve ([([(-(3 : Int))] : List Int)] : List (List Int)) (0 : Int)).bind fun x84 => (eqD (en x84) (en (SolA.no ([(1 : Int)] : List Int)))))) (ve_cmp (op_eqA hr.room.units) o2_eq cEqR hEqR (ve_frz (ve_call c_solve hr (pass_fn (takes_of rfl rfl rfl rfl)) (va_cons (ve_frz (ve_lst (s := .frz) (fun (x : ((List Int) × Unit)) => ([x.1] : List (List Int))) (va_cons (ve_frz (ve_lst (s := .frz) (fun (x : (Int × Unit)) => ([x.1] : List Int)) (va_cons (te_neg ve_int) va_nil))) va_nil))) (va_cons ve_int va_nil)))) (ve_frz (ve_eq (m' := (R.ok (SolA.no ([(1 : Int)] : List Int)))) (ve_castR SolA.mkno (ve_tup (s := .frz) (fun (x : (Str × (List Int) × Unit)) => ((x.1, x.2.1) : (Str × (List Int)))) (va_cons ve_str (va_cons (ve_frz (ve_lst (s := .frz) (fun (x : (Int × Unit)) => ([x.1] : List Int)) (va_cons ve_int va_nil))) va_nil))) SolA.mkno_h) (by first | exact SolA.mkno_ok _ | simp only [R.bind_eta, R.bind_assoc, R.okb, R.exb, R.nob, R.map_eq, q_gInt, q_gIntB, q_gLen, q_gLenT, q_gLenN, q_gAbs, q_gMax2, q_gMin2, q_gGcd, q_gSum, q_gAny, q_gAnyI, q_gMaxL, q_gLenF, q_cIsB, q_cNotB, q_gAll, q_gList, q_gListT, q_gTuple, q_gSorted, q_gSortedT, q_gRepr, q_cLt, q_cLe, q_cGt, q_cGe, q_cEq, q_cNe, q_cEqS, q_cNeS, q_cEqR, q_cNeR, q_cIsN, q_cIsS, q_cIn, q_cNi, q_cInR, q_cNiR, q_cInT, q_cNiT, SolA.mkno_ok]))) (nomark _)) (by first | with_reducible rfl | simp only [R.bind_eta, R.bind_assoc, R.okb, R.exb, R.nob, R.map_eq, q_gInt, q_gIntB, q_gLen, q_gLenT, q_gLenN, q_gAbs, q_gMax2, q_gMin2, q_gGcd, q_gSum, q_gAny, q_gAnyI, q_gMaxL, q_gLenF, q_cIsB, q_cNotB, q_gAll, q_gList, q_gListT, q_gTuple, q_gSorted, q_gSortedT, q_gRepr, q_cLt, q_cLe, q_cGt, q_cGe, q_cEq, q_cNe, q_cEqS, q_cNeS, q_cEqR, q_cNeR, q_cIsN, q_cIsS, q_cIn, q_cNi, q_cInR, q_cNiR, q_cInT, q_cNiT] | rfl)) (ve_one (ve_eq (m' := ((f_solve ([([(0 : Int)] : List Int)] : List (List Int)) (0 : Int)).bind fun x85 => (eqD (en x85) (en (SolA.yes ([] : List (Int × Int))))))) (ve_cmp (op_eqA hr.room.units) o2_eq cEqR hEqR (ve_frz (ve_call c_solve hr (pass_fn (takes_of rfl rfl rfl rfl)) (va_cons (ve_frz (ve_lst (s := .frz) (fun (x : ((List Int) × Unit)) => ([x.1] : List (List Int))) (va_cons (ve_frz (ve_lst (s := .frz) (fun (x : (Int × Unit)) => ([x.1] : List Int)) (va_cons ve_int va_nil))) va_nil))) (va_cons ve_int va_nil)))) (ve_frz (ve_eq (m' := (R.ok (SolA.yes ([] : List (Int × Int))))) (ve_castR SolA.mkyes (ve_tup (s := .frz) (fun (x : (Str × (List (Int × Int)) × Unit)) => ((x.1, x.2.1) : (Str × (List (Int × Int))))) (va_cons ve_str (va_cons (ve_frz (ve_lst (s := .frz) (fun (x : (Unit)) => ([] : List (Int × Int))) va_nil)) va_nil))) SolA.mkyes_h) (by first | exact SolA.mkyes_ok _ | simp only [R.bind_eta, R.bind_assoc, R.okb, R.exb, R.nob, R.map_eq, q_gInt, q_gIntB, q_gLen, q_gLenT, q_gLenN, q_gAbs, q_gMax2, q_gMin2, q_gGcd, q_gSum, q_gAny, q_gAnyI, q_gMaxL, q_gLenF, q_cIsB, q_cNotB, q_gAll, q_gList, q_gListT, q_gTuple, q_gSorted, q_gSortedT, q_gRepr, q_cLt, q_cLe, q_cGt, q_cGe, q_cEq, q_cNe, q_cEqS, q_cNeS, q_cEqR, q_cNeR, q_cIsN, q_cIsS, q_cIn, q_cNi, q_cInR, q_cNiR, q_cInT, q_cNiT, SolA.mkyes_ok]))) (nomark _)) (by first | with_reducible rfl | simp only [R.bind_eta, R.bind_assoc, R.okb, R.exb, R.nob, R.map_eq, q_gInt, q_gIntB, q_gLen, q_gLenT, q_gLenN, q_gAbs, q_gMax2, q_gMin2, q_gGcd, q_gSum, q_gAny, q_gAnyI, q_gMaxL, q_gLenF, q_cIsB, q_cNotB, q_gAll, q_gList, q_gListT, q_gTuple, q_gSorted, q_gSortedT, q_gRepr, q_cLt, q_cLe, q_cGt, q_cGe, q_cEq, q_cNe, q_cEqS, q_cNeS, q_cEqR, q_cNeR, q_cIsN, q_cIsS, q_cIn, q_cNi, q_cInR, q_cNiR, q_cInT, q_cNiT] | rfl))))) (by first | with_reducible rfl | simp only [R.bind_eta, R.bind_assoc, R.okb, R.exb, R.nob, R.map_eq, q_gInt, q_gIntB, q_gLen, q_gLenT, q_gLenN, q_gAbs, q_gMax2, q_gMin2, q_gGcd, q_gSum, q_gAny, q_gAnyI, q_gMaxL, q_gLenF, q_cIsB, q_cNotB, q_gAll, q_gList, q_gListT, q_gTuple, q_gSorted, q_gSortedT, q_gRepr, q_cLt, q_cLe, q_cGt, q_cGe, q_cEq, q_cNe, q_cEqS, q_cNeS, q_cEqR, q_cNeR, q_cIsN, q_cIsS, q_cIn, q_cNi, q_cInR, q_cNiR, q_cInT, q_cNiT] | rfl)))))))))))

end
end Lw

set_option Elab.async false
set_option linter.all false
set_option maxRecDepth 100000
set_option maxHeartbeats 4000000
/-! PV: rows as functions of their places. -/
namespace Lw
open PySem Tx
def vec {α : Type} (m : Nat) (f : Nat → α) : List α := (List.range m).map f
section
variable {α β : Type} {m : Nat} {f g : Nat → α}
@[simp] theorem vec_len : (vec m f).length = m := by simp [vec]
theorem vec_get {k : Nat} (h : k < m) : (vec m f)[k]? = some (f k) := by
  unfold vec; rw [List.getElem?_map, List.getElem?_range h]; rfl
theorem vec_ext (h : ∀ j, j < m → f j = g j) : vec m f = vec m g := List.map_congr_left fun j hj => h j (List.mem_range.mp hj)
theorem vec_inj (h : vec m f = vec m g) : ∀ j, j < m → f j = g j := fun j hj => by
  have a := vec_get (f := f) hj
  rw [h, vec_get hj] at a
  exact (Option.some.inj a).symm
theorem vec_map (p : α → β) : (vec m f).map p = vec m fun j => p (f j) := by unfold vec; rw [List.map_map]; rfl
theorem vec_of (l : List α) (d : α) : l = vec l.length fun j => l.getD j d := by
  apply List.ext_getElem?
  intro j
  by_cases h : j < l.length
  · rw [vec_get h, List.getElem?_eq_getElem h, List.getD_eq_getElem?_getD, List.getElem?_eq_getElem h]; rfl
  · rw [List.getElem?_eq_none (by omega), List.getElem?_eq_none (by simp; omega)]
theorem vec_zero (x : α) : List.replicate m x = vec m fun _ => x := by
  unfold vec
  rw [List.map_const']
  simp
theorem vec_set {k : Nat} {x : α} : (vec m f).set k x = vec m fun j => if j = k then x else f j := by
  apply List.ext_getElem?
  intro j
  by_cases h : j < m
  · rw [vec_get h]
    by_cases q : j = k
    · subst q
      rw [List.getElem?_set_self (by simpa using h)]; simp
    · rw [List.getElem?_set_ne (Ne.symm q), vec_get h, if_neg q]
  · rw [List.getElem?_eq_none (by simp; omega), List.getElem?_eq_none (by simp; omega)]
theorem vec_ix {k : Nat} (h : k < m) : ixR (vec m f) (k : Int) = .ok (f k) := ixR_nat (vec_get h)
theorem vec_ixi {i : Int} (h : 0 ≤ i ∧ i < m) : ixR (vec m f) i = .ok (f i.toNat) := by
  obtain ⟨k, rfl⟩ := Int.eq_ofNat_of_zero_le h.1
  exact vec_ix (by omega)
theorem vec_put {k : Nat} {x : α} (h : k < m) : putR (vec m f) (k : Int) x = .ok (vec m fun j => if j = k then x else f j) := by
  rw [putR_nat (by simpa using h), vec_set]
theorem vec_puti {i : Int} {x : α} (h : 0 ≤ i ∧ i < m) : putR (vec m f) i x = .ok (vec m fun j => if j = i.toNat then x else f j) := by
  obtain ⟨k, rfl⟩ := Int.eq_ofNat_of_zero_le h.1
  exact vec_put (by omega)
theorem vec_zip {h : Nat → β} : (vec m f).zip (vec m h) = vec m fun j => (f j, h j) := by
  unfold vec
  rw [List.zip_map', ]
theorem vec_mapR {γ : Type} {p : α → R γ} {q : Nat → γ} (h : ∀ j, j < m → p (f j) = .ok (q j)) : mapR p (vec m f) = .ok (vec m q) := by
  unfold vec
  induction m with
  | zero => rfl
  | succ m ih =>
    have gen : ∀ (xs : List Nat), (∀ j ∈ xs, p (f j) = .ok (q j)) → mapR p (xs.map f) = .ok (xs.map q) := by
      intro xs
      induction xs with
      | nil => intro _; rfl
      | cons x xs ih =>
        intro hx
        show (p (f x)).bind _ = _
        rw [hx x List.mem_cons_self]
        show (mapR p (xs.map f)).bind _ = _
        rw [ih fun y hy => hx y (List.mem_cons_of_mem _ hy)]; rfl
    exact gen _ fun j hj => h j (List.mem_range.mp hj)
theorem vec_mem {x : α} : x ∈ vec m f ↔ ∃ j, j < m ∧ f j = x := by
  unfold vec; simp [List.mem_map]
theorem vec_cons : vec (m + 1) f = f 0 :: vec m fun j => f (j + 1) := by
  unfold vec
  rw [List.range_succ_eq_map, List.map_cons, List.map_map]; rfl
theorem vec_snoc : vec (m + 1) f = vec m f ++ [f m] := by
  unfold vec
  rw [List.range_succ, List.map_append]; rfl
theorem rangeN_vec : rangeN m = vec m fun j => (j : Int) := rfl
end
theorem cut1 {α : Type} (a : α) (l : List α) : cutL (a :: l) (some 1) none = l := by
  have e : sIxV (a :: l).length 0 (some 1) = 1 := by
    simp [sIxV]
  have e2 : sIxV (a :: l).length (a :: l).length none = (a :: l).length := rfl
  unfold cutL
  rw [e, e2]
  show ((a :: l).drop 1).take _ = l
  rw [List.drop_one, List.tail_cons, List.take_of_length_le (by simp)]
theorem enumL_get {α : Type} : ∀ (l : List α) (k i : Nat), (enumL k l)[i]? = l[i]?.map fun x => (((k + i : Nat) : Int), x)
  | [], _, _ => by simp [enumL]
  | a :: l, k, 0 => by simp [enumL]
  | a :: l, k, i + 1 => by
    show (enumL (k + 1) l)[i]? = _
    rw [enumL_get l (k + 1) i]
    simp [Nat.add_assoc, Nat.add_comm 1 i]
theorem enumL_len {α : Type} : ∀ (l : List α) (k : Nat), (enumL k l).length = l.length
  | [], _ => rfl
  | a :: l, k => congrArg (· + 1) (enumL_len l (k + 1))
theorem two_len {α β : Type} {f g : α → β} : ∀ l : List α, (l.map fun x => [f x, g x]).flatten.length = 2 * l.length
  | [] => rfl
  | a :: l => by
    rw [List.map_cons, List.flatten_cons, List.length_append, two_len l]
    simp only [List.length_cons, List.length_nil]; omega
theorem ite_iff {α : Type} {p q : Prop} [Decidable p] [Decidable q] {a b : α} (h : p ↔ q) : (if p then a else b) = if q then a else b := by
  by_cases z : p
  · rw [if_pos z, if_pos (h.mp z)]
  · rw [if_neg z, if_neg (fun w => z (h.mpr w))]
end Lw

set_option Elab.async false
set_option linter.all false
set_option maxRecDepth 100000
set_option maxHeartbeats 4000000
/-! PDq: sums of rationals, the worth of a row. -/
namespace Lw
open PySem Tx
/-! ### sums of rationals -/
def sumQ : Nat → (Nat → Rat) → Rat
  | 0, _ => 0
  | n + 1, f => sumQ n f + f n
theorem sumQ_ext {f g : Nat → Rat} : ∀ {n : Nat}, (∀ k, k < n → f k = g k) → sumQ n f = sumQ n g
  | 0, _ => rfl
  | n + 1, h => by
    show sumQ n f + f n = sumQ n g + g n
    rw [sumQ_ext fun k hk => h k (by omega), h n (by omega)]
theorem sumQ_add {f g : Nat → Rat} : ∀ n, sumQ n (fun k => f k + g k) = sumQ n f + sumQ n g
  | 0 => (Rat.add_zero 0).symm
  | n + 1 => by
    show sumQ n _ + (f n + g n) = (sumQ n f + f n) + (sumQ n g + g n)
    rw [sumQ_add n]; grind
theorem sumQ_mul {f : Nat → Rat} (a : Rat) : ∀ n, sumQ n (fun k => a * f k) = a * sumQ n f
  | 0 => (Rat.mul_zero a).symm
  | n + 1 => by
    show sumQ n _ + a * f n = a * (sumQ n f + f n)
    rw [sumQ_mul a n]; grind
theorem sumQ_zero {f : Nat → Rat} {n : Nat} (h : ∀ k, k < n → f k = 0) : sumQ n f = 0 := by
  induction n with
  | zero => rfl
  | succ n ih =>
    show sumQ n f + f n = 0
    rw [ih fun k hk => h k (by omega), h n (by omega)]; exact Rat.add_zero 0
theorem sumQ_one {f : Nat → Rat} {n r : Nat} (hr : r < n) (h : ∀ k, k < n → k ≠ r → f k = 0) : sumQ n f = f r := by
  induction n with
  | zero => omega
  | succ n ih =>
    show sumQ n f + f n = f r
    by_cases e : r = n
    · subst e
      rw [sumQ_zero fun k hk => h k (by omega) (by omega), Rat.zero_add]
    · rw [ih (by omega) fun k hk hn => h k (by omega) hn, h n (by omega) (Ne.symm e), Rat.add_zero]
/-- the worth of a row -/
def Wq (m : Nat) (U : Nat → Rat) (f : Nat → Int) : Rat := sumQ m fun j => (f j : Rat) * U j
section
variable {m : Nat} {U : Nat → Rat} {f g : Nat → Int}
theorem Wq_add : Wq m U (fun j => f j + g j) = Wq m U f + Wq m U g := by
  unfold Wq
  rw [← sumQ_add]
  exact sumQ_ext fun j _ => by rw [Rat.intCast_add]; grind
theorem Wq_mul (a : Int) : Wq m U (fun j => a * f j) = (a : Rat) * Wq m U f := by
  unfold Wq
  rw [← sumQ_mul]
  exact sumQ_ext fun j _ => by rw [Rat.intCast_mul]; grind
theorem Wq_ext (h : ∀ j, j < m → f j = g j) : Wq m U f = Wq m U g := sumQ_ext fun j hj => by rw [h j hj]
theorem Wq_neg : Wq m U (fun j => -f j) = -Wq m U f := by
  have := Wq_mul (m := m) (U := U) (f := f) (-1)
  rw [Wq_ext (g := fun j => -1 * f j) fun j _ => by omega, this]
  grind
theorem Wq_at {r : Nat} (hr : r < m) (a : Int) : Wq m U (fun j => if j = r then a else 0) = (a : Rat) * U r := by
  unfold Wq
  rw [sumQ_one hr fun k _ hk => by
    show (((if k = r then a else 0 : Int)) : Rat) * U k = 0
    rw [if_neg hk]; grind]
  show (((if r = r then a else 0 : Int)) : Rat) * U r = _
  rw [if_pos rfl]
theorem Wq_zero : Wq m U (fun _ => 0) = 0 := sumQ_zero fun k _ => by grind
theorem Wq_list {α : Type} (h : α → Nat → Int) : ∀ L : List α, Wq m U (fun j => (L.map fun l => h l j).sum) = (L.map fun l => Wq m U (h l)).sum
  | [] => Wq_zero
  | l :: L => by
    have := Wq_list h L
    rw [List.map_cons, List.sum_cons, ← this, ← Wq_add]
    rfl
end
end Lw

set_option Elab.async false
set_option linter.all false
set_option maxRecDepth 100000
set_option maxHeartbeats 4000000
/-! PNd: what the laws draw: numbers. -/
namespace Lw
open PySem Tx
theorem cell_ok (ns : List Int) (k : Nat) : f_law_cell ns (k : Int) = .ok (ns.getD k 0) := by
  unfold f_law_cell
  by_cases h : k < ns.length
  · have h' : ((k : Int) < (ns.length : Int)) := by omega
    simp only [decide_eq_true h', iteR_okb, if_true]
    rw [ixR_nat (x := ns[k]) (by simp [h]), List.getD_eq_getElem?_getD, List.getElem?_eq_getElem h]
    rfl
  · have h' : ¬ ((k : Int) < (ns.length : Int)) := by omega
    simp only [decide_eq_false h', iteR_okb]
    rw [List.getD_eq_getElem?_getD, List.getElem?_eq_none (by omega)]
    rfl
theorem draws_turn (fr : Bool) (m : Int) (hm : 0 < m ∧ m < 1152921504606846976) (found : List Int) (rest st : Int) (hl : found.length < 1000) (hr : 0 ≤ rest) :
    ∃ x rest' st', f_law_draws_l1 fr m (found, rest, st) = .ok (found ++ [x], rest', st') ∧ (0 ≤ x ∧ x < m) ∧ 0 ≤ rest' := by
  unfold f_law_draws_l1
  simp only [iteR_okb]
  split
  · refine ⟨rest % m, rest / m, st, ?_, ⟨Int.emod_nonneg _ (by omega), Int.emod_lt_of_pos _ hm.1⟩, Int.ediv_nonneg hr (by omega)⟩
    simp only [modR_p hm.1, divR_w hm.1 (by have := (Nat.log2_lt (n := m.natAbs) (k := 60) (by omega)).mpr (by omega); omega), R.okb]
    rw [appR_ok (by omega)]
    rfl
  · have e1 : ∀ i : Int, mulR i 48271 = .ok (i * 48271) := fun i => mulR_r (by decide)
    have e2 : ∀ i : Int, mulR i 69621 = .ok (i * 69621) := fun i => mulR_r (by decide)
    have e3 : ∀ i : Int, modR i 2147483647 = .ok (i % 2147483647) := fun i => modR_p (by decide)
    have e4 : ∀ i : Int, divR i 13 = .ok (i / 13) := fun i => divR_p (by decide) (by decide)
    simp only [e1, e2, e3, e4, R.okb, modR_p hm.1]
    rw [appR_ok (by omega)]
    exact ⟨_, _, _, rfl, ⟨Int.emod_nonneg _ (by omega), Int.emod_lt_of_pos _ hm.1⟩, hr⟩
theorem draws_okW (c : Int) (ls : List Int) (h : ∀ m ∈ ls, 0 < m ∧ m < 1152921504606846976) (hl : ls.length ≤ 1000) : ∃ l, f_law_draws c ls = .ok l ∧ InR l ls := by
  unfold f_law_draws
  have e3 : ∀ i : Int, modR i 2147483647 = .ok (i % 2147483647) := fun i => modR_p (by decide)
  simp only [R.okb, e3, pow18]
  have : ∃ b, orR (R.ok (decide (c < 0))) (R.ok (decide (1000000000000000000 ≤ c))) = .ok b := ⟨_, orR_ok _ _⟩
  obtain ⟨b, hb⟩ := this
  rw [hb]
  simp only [R.okb]
  obtain ⟨s', e, hI⟩ := forR_inv (f := f_law_draws_l1 b) (xs := ls) (s := ([], absI c, absI c % 2147483647)) (fun i s => InR s.1 (ls.take i) ∧ 0 ≤ s.2.1) ⟨trivial, by rw [absI_eq]; show (0 : Int) ≤ (c.natAbs : Int); omega⟩ fun i m s hm ⟨h1, h2⟩ => by
    have hi := (List.getElem?_eq_some_iff.mp hm).1
    have hlen := h1.len
    rw [List.length_take] at hlen
    obtain ⟨x, r, t, e, hx, hr⟩ := draws_turn b m (h m (List.mem_of_getElem? hm)) s.1 s.2.1 s.2.2 (by omega) h2
    refine ⟨_, e, ?_, hr⟩
    rw [List.take_add_one, hm]
    exact h1.snoc hx
  rw [e]
  exact ⟨s'.1, rfl, by rw [List.take_length] at hI; exact hI.1⟩

theorem draws_ok (c : Int) (ls : List Int) (h : ∀ m ∈ ls, 0 < m ∧ m < 1073741824) (hl : ls.length ≤ 1000) : ∃ l, f_law_draws c ls = .ok l ∧ InR l ls :=
  draws_okW c ls (fun m hm => ⟨(h m hm).1, by have := (h m hm).2; omega⟩) hl
end Lw

set_option Elab.async false
set_option linter.all false
/-! S1: an alternating multilinear form on columns (by Laplace), plain. -/
namespace Sx
def sumN : Nat → (Nat → Int) → Int
  | 0, _ => 0
  | n + 1, f => sumN n f + f n
theorem sumN_ext {f g : Nat → Int} : ∀ {n : Nat}, (∀ k, k < n → f k = g k) → sumN n f = sumN n g
  | 0, _ => rfl
  | n + 1, h => by
    show sumN n f + f n = sumN n g + g n
    rw [sumN_ext fun k hk => h k (by omega), h n (by omega)]
theorem sumN_add {f g : Nat → Int} : ∀ n, sumN n (fun k => f k + g k) = sumN n f + sumN n g
  | 0 => rfl
  | n + 1 => by
    show sumN n _ + (f n + g n) = (sumN n f + f n) + (sumN n g + g n)
    rw [sumN_add n]; omega
theorem sumN_mul {f : Nat → Int} (a : Int) : ∀ n, sumN n (fun k => a * f k) = a * sumN n f
  | 0 => (Int.mul_zero a).symm
  | n + 1 => by
    show sumN n _ + a * f n = a * (sumN n f + f n)
    rw [sumN_mul a n, Int.mul_add]
theorem sumN_zero {f : Nat → Int} {n : Nat} (h : ∀ k, k < n → f k = 0) : sumN n f = 0 := by
  induction n with
  | zero => rfl
  | succ n ih =>
    show sumN n f + f n = 0
    rw [ih fun k hk => h k (by omega), h n (by omega)]; rfl
theorem sumN_one {f : Nat → Int} {n r : Nat} (hr : r < n) (h : ∀ k, k < n → k ≠ r → f k = 0) : sumN n f = f r := by
  induction n with
  | zero => omega
  | succ n ih =>
    show sumN n f + f n = f r
    by_cases e : r = n
    · subst e
      rw [sumN_zero fun k hk => h k (by omega) (by omega)]; omega
    · rw [ih (by omega) fun k hk hn => h k (by omega) hn, h n (by omega) (Ne.symm e)]; omega
theorem sumN_two {f : Nat → Int} {n r s : Nat} (hr : r < n) (hs : s < n) (hrs : r ≠ s) (h : ∀ k, k < n → k ≠ r → k ≠ s → f k = 0) : sumN n f = f r + f s := by
  have e : sumN n f = sumN n (fun k => (if k = s then 0 else f k) + (if k = s then f s else 0)) := sumN_ext fun k _ => by
    by_cases q : k = s
    · rw [if_pos q, if_pos q, q]; omega
    · rw [if_neg q, if_neg q]; omega
  rw [e, sumN_add, sumN_one hr fun k hk hn => ?_, sumN_one hs fun k hk hn => if_neg hn, if_neg hrs, if_pos rfl]
  split
  · rfl
  · rename_i q; exact h k hk hn q
theorem sumN_bound {f : Nat → Int} {c : Nat} : ∀ {n : Nat}, (∀ k, k < n → (f k).natAbs ≤ c) → (sumN n f).natAbs ≤ n * c
  | 0, _ => by show (0 : Int).natAbs ≤ 0 * c; simp
  | n + 1, h => by
    have h1 := sumN_bound (f := f) (n := n) fun k hk => h k (by omega)
    have h2 := h n (by omega)
    show (sumN n f + f n).natAbs ≤ _
    rw [Nat.succ_mul]; omega
theorem sumN_neg {f : Nat → Int} {n : Nat} (h : sumN n f < 0) : ∃ k, k < n ∧ f k < 0 := by
  induction n with
  | zero => exact absurd h (by show ¬ (0 : Int) < 0; omega)
  | succ n ih =>
    have h : sumN n f + f n < 0 := h
    by_cases q : f n < 0
    · exact ⟨n, by omega, q⟩
    · obtain ⟨k, hk, e⟩ := ih (by omega)
      exact ⟨k, by omega, e⟩
theorem sumN_nonneg {f : Nat → Int} {n : Nat} (h : ∀ k, k < n → 0 ≤ f k) : 0 ≤ sumN n f := by
  apply Classical.byContradiction
  intro q
  obtain ⟨k, hk, e⟩ := sumN_neg (f := f) (n := n) (by omega)
  have := h k hk; omega
theorem sumN_swap {f : Nat → Nat → Int} (m : Nat) : ∀ n, sumN n (fun i => sumN m (fun j => f i j)) = sumN m (fun j => sumN n (fun i => f i j))
  | 0 => (sumN_zero fun _ _ => rfl).symm
  | n + 1 => by
    show sumN n _ + sumN m _ = _
    rw [sumN_swap m n, ← sumN_add]; rfl
/-- one place changed -/
def upd {α : Type} (C : Nat → α) (r : Nat) (x : α) : Nat → α := fun k => if k = r then x else C k
section
variable {α : Type} {C : Nat → α} {r s : Nat} {x y : α}
theorem upd_at : upd C r x r = x := if_pos rfl
theorem upd_ne {k : Nat} (h : k ≠ r) : upd C r x k = C k := if_neg h
theorem upd_comm (h : r ≠ s) : upd (upd C r x) s y = upd (upd C s y) r x := by
  funext k
  unfold upd
  by_cases q : k = s
  · rw [if_pos q, if_neg (fun e => h (e.symm.trans q)), if_pos q]
  · rw [if_neg q, if_neg q]
theorem upd_upd : upd (upd C r x) r y = upd C r y := by
  funext k
  unfold upd
  split <;> rfl
theorem upd_id : upd C r (C r) = C := by
  funext k
  unfold upd
  split
  · rename_i e; rw [e]
  · rfl
end
/-! ### the form -/
abbrev Cols := Nat → Nat → Int
def sk (k j : Nat) : Nat := if j < k then j else j + 1
def dr (k : Nat) (C : Cols) : Cols := fun j i => C (sk k j) (i + 1)
def sg (k : Nat) : Int := if k % 2 = 0 then 1 else -1
def D : Nat → Cols → Int
  | 0, _ => 1
  | m + 1, C => sumN (m + 1) fun k => sg k * (C k 0 * D m (dr k C))
theorem sk_lt {k j m : Nat} (hj : j < m) : sk k j < m + 1 := by unfold sk; split <;> omega
theorem sk_ne (k j : Nat) : sk k j ≠ k := by unfold sk; split <;> omega
theorem D_ext : ∀ {m : Nat} {C C' : Cols}, (∀ j, j < m → ∀ i, i < m → C j i = C' j i) → D m C = D m C'
  | 0, _, _, _ => rfl
  | m + 1, C, C', h => sumN_ext fun k hk => by
    have e : D m (dr k C) = D m (dr k C') := D_ext fun j hj i hi => h _ (sk_lt hj) (i + 1) (by omega)
    rw [h k hk 0 (by omega), e]
theorem dr_upd_same (C : Cols) (r : Nat) (z : Nat → Int) : dr r (upd C r z) = dr r C := by
  funext j i
  show upd C r z (sk r j) (i + 1) = C (sk r j) (i + 1)
  rw [upd_ne (sk_ne r j)]
theorem dr_upd {k r : Nat} (h : k ≠ r) (C : Cols) (z : Nat → Int) : dr k (upd C r z) = upd (dr k C) (if r < k then r else r - 1) (fun i => z (i + 1)) := by
  funext j i
  show upd C r z (sk k j) (i + 1) = _
  by_cases q : sk k j = r
  · have : j = if r < k then r else r - 1 := by unfold sk at q; split at q <;> split <;> omega
    rw [q, upd_at, this, upd_at]
  · have : j ≠ if r < k then r else r - 1 := by unfold sk at q; split at q <;> split <;> omega
    rw [upd_ne q, upd_ne this]; rfl
theorem D_lin : ∀ {m r : Nat} (_ : r < m) (C : Cols) (a b : Int) (x y : Nat → Int), D m (upd C r fun i => a * x i + b * y i) = a * D m (upd C r x) + b * D m (upd C r y)
  | 0, _, h, _, _, _, _, _ => by omega
  | m + 1, r, h, C, a, b, x, y => by
    show sumN (m + 1) _ = a * sumN (m + 1) _ + b * sumN (m + 1) _
    rw [← sumN_mul, ← sumN_mul, ← sumN_add]
    refine sumN_ext fun k hk => ?_
    by_cases q : k = r
    · subst q
      rw [dr_upd_same, dr_upd_same, dr_upd_same, upd_at, upd_at, upd_at]
      generalize D m (dr k C) = d
      rw [Int.add_mul, Int.mul_add, Int.mul_assoc, Int.mul_assoc]
      rw [Int.mul_left_comm (sg k) a, Int.mul_left_comm (sg k) b]
    · rw [dr_upd q, dr_upd q, dr_upd q, upd_ne q, upd_ne q, upd_ne q, D_lin (by split <;> omega)]
      rw [Int.mul_add, Int.mul_add, Int.mul_left_comm (C k 0) a, Int.mul_left_comm (C k 0) b, Int.mul_left_comm (sg k) a, Int.mul_left_comm (sg k) b]
theorem D_adj : ∀ {m r : Nat} {C : Cols}, r + 1 < m → (∀ i, i < m → C r i = C (r + 1) i) → D m C = 0
  | 0, _, _, h, _ => by omega
  | m + 1, r, C, h, e => by
    show sumN (m + 1) _ = 0
    rw [sumN_two (r := r) (s := r + 1) (by omega) h (by omega) fun k hk h1 h2 => ?_]
    · have ed : D m (dr r C) = D m (dr (r + 1) C) := D_ext fun j hj i hi => by
        show C (sk r j) (i + 1) = C (sk (r + 1) j) (i + 1)
        by_cases q : j = r
        · have e1 : sk r j = r + 1 := by unfold sk; rw [if_neg (by omega)]; omega
          have e2 : sk (r + 1) j = r := by unfold sk; rw [if_pos (by omega)]; omega
          rw [e1, e2, e (i + 1) (by omega)]
        · have : sk r j = sk (r + 1) j := by unfold sk; split <;> split <;> omega
          rw [this]
      have es : sg (r + 1) = -sg r := by unfold sg; split <;> split <;> omega
      rw [ed, es, e 0 (by omega), Int.neg_mul]; omega
    · have : D m (dr k C) = 0 := D_adj (r := if k < r then r - 1 else r) (by split <;> omega) fun i hi => by
        show C (sk k _) (i + 1) = C (sk k _) (i + 1)
        have e1 : sk k (if k < r then r - 1 else r) = r := by unfold sk; split <;> split <;> omega
        have e2 : sk k ((if k < r then r - 1 else r) + 1) = r + 1 := by unfold sk; split <;> split <;> omega
        rw [e1, e2, e (i + 1) (by omega)]
      rw [this, Int.mul_zero, Int.mul_zero]
/-- two places with u and v, where the form is 0 at equal ones -/
theorem D_anti {m r s : Nat} (C : Cols) (hr : r < m) (hs : s < m) (hrs : r ≠ s) (h0 : ∀ z : Nat → Int, D m (upd (upd C r z) s z) = 0) (u v : Nat → Int) : D m (upd (upd C r u) s v) = -D m (upd (upd C r v) s u) := by
  have l1 : ∀ x y z : Nat → Int, D m (upd (upd C r fun i => 1 * x i + 1 * y i) s z) = D m (upd (upd C r x) s z) + D m (upd (upd C r y) s z) := fun x y z => by
    rw [upd_comm hrs, D_lin hr, ← upd_comm hrs, ← upd_comm hrs]; omega
  have l2 : ∀ x y z : Nat → Int, D m (upd (upd C r z) s fun i => 1 * x i + 1 * y i) = D m (upd (upd C r z) s x) + D m (upd (upd C r z) s y) := fun x y z => by
    rw [D_lin hs]; omega
  have a := h0 fun i => 1 * u i + 1 * v i
  rw [l1, l2, l2, h0 u, h0 v] at a
  omega
theorem D_eq0 : ∀ (d : Nat) {m p : Nat} {C : Cols}, p + d + 1 < m → (∀ i, i < m → C p i = C (p + d + 1) i) → D m C = 0
  | 0, m, p, C, h, e => D_adj (r := p) h e
  | d + 1, m, p, C, h, e => by
    have a := D_anti C (r := p + d + 1) (s := p + d + 2) (m := m) (by omega) (by omega) (by omega) (fun z => D_adj (r := p + d + 1) (by omega) fun i _ => by
      rw [upd_ne (by omega), upd_at, show p + d + 1 + 1 = p + d + 2 by omega, upd_at]) (C (p + d + 1)) (C (p + d + 2))
    have b : upd (upd C (p + d + 1) (C (p + d + 1))) (p + d + 2) (C (p + d + 2)) = C := by rw [upd_id, upd_id]
    rw [b] at a
    rw [a, D_eq0 d (m := m) (p := p) (by omega) fun i hi => ?_]
    · rfl
    · rw [upd_ne (by omega), upd_ne (by omega), upd_ne (by omega), upd_at, e i hi]; rfl
theorem D_same {m p q : Nat} {C : Cols} (hp : p < m) (hq : q < m) (hn : p ≠ q) (e : ∀ i, i < m → C p i = C q i) : D m C = 0 := by
  rcases Nat.lt_or_gt_of_ne hn with h | h
  · refine D_eq0 (q - p - 1) (p := p) (by omega) fun i hi => ?_
    rw [show p + (q - p - 1) + 1 = q by omega]; exact e i hi
  · refine D_eq0 (p - q - 1) (p := q) (by omega) fun i hi => ?_
    rw [show q + (p - q - 1) + 1 = p by omega]; exact (e i hi).symm
theorem D_swap {m r s : Nat} (C : Cols) (hr : r < m) (hs : s < m) (hrs : r ≠ s) (u v : Nat → Int) : D m (upd (upd C r u) s v) = -D m (upd (upd C r v) s u) :=
  D_anti C hr hs hrs (fun z => D_same hr hs hrs fun i _ => by rw [upd_ne hrs, upd_at, upd_at]) u v
theorem D_sum {m r : Nat} (hr : r < m) (C : Cols) (a : Nat → Int) (v : Nat → Nat → Int) : ∀ n, D m (upd C r fun i => sumN n fun k => a k * v k i) = sumN n fun k => a k * D m (upd C r (v k))
  | 0 => by
    have := D_lin hr C 0 0 (fun _ => 0) (fun _ => 0)
    rw [Int.zero_mul, Int.zero_mul] at this
    exact this
  | n + 1 => by
    have := D_lin hr C 1 (a n) (fun i => sumN n fun k => a k * v k i) (v n)
    have e : (fun i => 1 * (sumN n fun k => a k * v k i) + a n * v n i) = fun i => sumN (n + 1) fun k => a k * v k i := by
      funext i
      show 1 * sumN n _ + _ = sumN n _ + _
      rw [Int.one_mul]
    rw [e] at this
    rw [this, D_sum hr C a v n, Int.one_mul]
    rfl
def unit (j : Nat) : Nat → Int := fun i => if i = j then 1 else 0
theorem D_id : ∀ m, D m unit = 1
  | 0 => rfl
  | m + 1 => by
    show sumN (m + 1) _ = 1
    rw [sumN_one (r := 0) (by omega) fun k _ hk => ?_]
    · have : D m (dr 0 unit) = D m unit := D_ext fun j _ i _ => by
        show unit (sk 0 j) (i + 1) = unit j i
        unfold unit sk
        simp
      rw [this, D_id m]; rfl
    · have : unit k 0 = 0 := if_neg (by omega)
      rw [this, Int.zero_mul, Int.mul_zero]
def bd : Nat → Nat → Nat
  | 0, _ => 1
  | m + 1, K => (m + 1) * (K * bd m K)
theorem D_bound {K : Nat} : ∀ {m : Nat} {C : Cols}, (∀ j, j < m → ∀ i, i < m → (C j i).natAbs ≤ K) → (D m C).natAbs ≤ bd m K
  | 0, _, _ => Nat.le_refl _
  | m + 1, C, h => by
    refine sumN_bound fun k hk => ?_
    have h1 := h k hk 0 (by omega)
    have h2 := D_bound (m := m) (C := dr k C) fun j hj i hi => h _ (sk_lt hj) (i + 1) (by omega)
    have e : (sg k).natAbs = 1 := by unfold sg; split <;> rfl
    rw [Int.natAbs_mul, e, Nat.one_mul, Int.natAbs_mul]
    exact Nat.mul_le_mul h1 h2
end Sx

set_option Elab.async false
set_option linter.all false
/-! S2: tableaus told by their bases; a turn. -/
namespace Sx
/-- m equations, n unknowns; column n + k is the k-th mark, column n + m the right sides -/
structure Pb where
  m : Nat
  n : Nat
  T0 : Cols
structure Pb.Ok (P : Pb) : Prop where
  e : ∀ k, k < P.m → P.T0 (P.n + k) = unit k
namespace Pb
variable (P : Pb)
def N : Nat := P.n + P.m
def B (β : Nat → Nat) : Cols := fun i => P.T0 (β i)
def det (β : Nat → Nat) : Int := D P.m (P.B β)
def Tb (β : Nat → Nat) (i j : Nat) : Int := D P.m (upd (P.B β) i (P.T0 j))
def cost (c : Nat → Int) (β : Nat → Nat) (j : Nat) : Int := P.det β * c j - sumN P.m fun i => c (β i) * P.Tb β i j
structure Inv (β : Nat → Nat) : Prop where
  pos : 0 < P.det β
  lt : ∀ i, i < P.m → β i < P.N
  cr : ∀ j x, x < P.m → P.det β * P.T0 j x = sumN P.m fun i => P.Tb β i j * P.T0 (β i) x
  feas : ∀ i, i < P.m → 0 ≤ P.Tb β i P.N
structure Stp (c : Nat → Int) (β : Nat → Nat) (r s : Nat) : Prop where
  hr : r < P.m
  hs : s < P.n
  neg : P.cost c β s < 0
  fst : ∀ j, j < s → 0 ≤ P.cost c β j
  pos : 0 < P.Tb β r s
  rat : ∀ i, i < P.m → 0 < P.Tb β i s → P.Tb β r P.N * P.Tb β i s < P.Tb β i P.N * P.Tb β r s ∨ (P.Tb β r P.N * P.Tb β i s = P.Tb β i P.N * P.Tb β r s ∧ β r ≤ β i)
end Pb
section
variable {P : Pb} {β : Nat → Nat} {c : Nat → Int} {r s i j k : Nat}
theorem B_upd : P.B (upd β r s) = upd (P.B β) r (P.T0 s) := by
  funext k x
  unfold Pb.B upd
  by_cases q : k = r
  · rw [if_pos q, if_pos q]
  · rw [if_neg q, if_neg q]
theorem det_upd : P.det (upd β r s) = P.Tb β r s := by unfold Pb.det Pb.Tb; rw [B_upd]
theorem Tb_upd_r : P.Tb (upd β r s) r j = P.Tb β r j := by unfold Pb.Tb; rw [B_upd, upd_upd]
theorem D_smul {m r : Nat} (hr : r < m) (C : Cols) (a : Int) (x : Nat → Int) : D m (upd C r fun i => a * x i) = a * D m (upd C r x) := by
  have := D_lin hr C a 0 x x
  rw [Int.zero_mul, Int.add_zero] at this
  rw [← this]
  refine D_ext fun j _ i _ => ?_
  unfold upd
  split
  · show a * x i = a * x i + 0 * x i
    omega
  · rfl
theorem D_put {m r : Nat} (C : Cols) {x y : Nat → Int} (h : ∀ i, i < m → x i = y i) : D m (upd C r x) = D m (upd C r y) := D_ext fun j _ i hi => by
  unfold upd
  split
  · exact h i hi
  · rfl
theorem Tb_basis (hi : i < P.m) (hk : k < P.m) : P.Tb β k (β i) = if k = i then P.det β else 0 := by
  unfold Pb.Tb
  by_cases q : k = i
  · subst q
    rw [if_pos rfl]
    show D P.m (upd (P.B β) k (P.B β k)) = _
    rw [upd_id]; rfl
  · rw [if_neg q]
    refine D_same hk hi q fun x _ => ?_
    rw [upd_at, upd_ne (Ne.symm q)]; rfl
theorem inj (h : P.Inv β) (hi : i < P.m) (hk : k < P.m) (e : β i = β k) : i = k := by
  apply Classical.byContradiction
  intro q
  have : P.det β = 0 := D_same hi hk q fun x _ => by unfold Pb.B; rw [e]
  have := h.pos
  omega
theorem cost_basis (hi : i < P.m) : P.cost c β (β i) = 0 := by
  unfold Pb.cost
  rw [sumN_one hi fun k hk hn => by rw [Tb_basis hi hk, if_neg hn, Int.mul_zero], Tb_basis hi hi, if_pos rfl, Int.mul_comm]; omega
/-- a column of the basis told by another one: linear -/
theorem Tb_lin (h : P.Inv β) {β' : Nat → Nat} (hk : k < P.m) : P.det β * P.Tb β' k j = sumN P.m fun i => P.Tb β i j * P.Tb β' k (β i) := by
  unfold Pb.Tb
  rw [← D_smul hk, D_put (P.B β') (y := fun x => sumN P.m fun i => P.Tb β i j * P.T0 (β i) x) (h.cr j), D_sum hk]
  rfl
/-- the law of a turn -/
theorem three (h : P.Inv β) (hr : r < P.m) (hi : i < P.m) (hn : i ≠ r) : P.det β * P.Tb (upd β r s) i j = P.Tb β i j * P.Tb β r s - P.Tb β i s * P.Tb β r j := by
  have e := Tb_lin h (β' := upd β r s) (j := j) hi
  rw [e]
  have t : ∀ k, P.Tb (upd β r s) i (β k) = D P.m (upd (upd (P.B β) r (P.T0 s)) i (P.B β k)) := fun k => by unfold Pb.Tb; rw [B_upd]; rfl
  rw [sumN_two hi hr hn fun k hk h1 h2 => ?_]
  · rw [t, t, upd_comm (Ne.symm hn), upd_id, D_swap (P.B β) hr hi (Ne.symm hn), upd_id]
    show P.Tb β i j * P.Tb β r s + P.Tb β r j * -P.Tb β i s = _
    rw [Int.mul_neg, Int.mul_comm (P.Tb β r j)]; omega
  · rw [t, D_same hi hk (Ne.symm h1) fun x _ => ?_, Int.mul_zero]
    rw [upd_at, upd_ne h1, upd_ne h2]
theorem three' (h : P.Inv β) (hr : r < P.m) (hi : i < P.m) : P.det β * P.Tb (upd β r s) i j = (P.Tb β i j * P.Tb β r s - P.Tb β i s * P.Tb β r j) + if i = r then P.det β * P.Tb β r j else 0 := by
  by_cases q : i = r
  · subst q
    rw [if_pos rfl, Tb_upd_r, Int.mul_comm (P.Tb β i j)]; omega
  · rw [if_neg q, three h hr hi q]; omega
theorem sum_at {m r : Nat} {f : Nat → Int} {a : Int} (hr : r < m) : (sumN m fun i => f i + if i = r then a else 0) = sumN m f + a := by
  rw [sumN_add, sumN_one hr fun k _ hk => if_neg hk, if_pos rfl]
theorem sumN_sub {f g : Nat → Int} (n : Nat) : sumN n (fun k => f k - g k) = sumN n f - sumN n g := by
  have e : sumN n (fun k => f k - g k) = sumN n (fun k => f k + (-1) * g k) := sumN_ext fun k _ => by omega
  rw [e, sumN_add, sumN_mul]; omega
theorem cr_upd (h : P.Inv β) (hr : r < P.m) (hp : 0 < P.Tb β r s) {x : Nat} (hx : x < P.m) : P.det (upd β r s) * P.T0 j x = sumN P.m fun i => P.Tb (upd β r s) i j * P.T0 (upd β r s i) x := by
  apply Int.eq_of_mul_eq_mul_left (a := P.det β) (by have := h.pos; omega)
  rw [← sumN_mul]
  have e : (sumN P.m fun i => P.det β * (P.Tb (upd β r s) i j * P.T0 (upd β r s i) x)) = sumN P.m fun i => (P.Tb β r s * (P.Tb β i j * P.T0 (β i) x) - P.Tb β r j * (P.Tb β i s * P.T0 (β i) x)) + if i = r then P.det β * P.Tb β r j * P.T0 s x else 0 := sumN_ext fun i hi => by
    rw [← Int.mul_assoc, three' h hr hi]
    by_cases q : i = r
    · subst q
      rw [if_pos rfl, if_pos rfl, upd_at]
      rw [Int.mul_comm (P.Tb β i j) (P.Tb β i s), Int.sub_self, Int.zero_add, Int.mul_left_comm (P.Tb β i s), Int.sub_self, Int.zero_add]
    · rw [if_neg q, if_neg q, upd_ne q, Int.add_zero, Int.add_zero, Int.sub_mul, Int.mul_comm (P.Tb β i j) (P.Tb β r s), Int.mul_comm (P.Tb β i s) (P.Tb β r j), Int.mul_assoc, Int.mul_assoc]
  rw [e, sum_at hr, sumN_sub, sumN_mul, sumN_mul, ← h.cr j x hx, ← h.cr s x hx, det_upd]
  rw [Int.mul_left_comm (P.Tb β r s) (P.det β), Int.mul_left_comm (P.Tb β r j) (P.det β), Int.mul_assoc (P.det β) (P.Tb β r j)]
  omega
theorem cost_upd (h : P.Inv β) (hr : r < P.m) : P.det β * P.cost c (upd β r s) j = P.cost c β j * P.Tb β r s - P.cost c β s * P.Tb β r j := by
  unfold Pb.cost
  rw [Int.mul_sub, ← sumN_mul]
  have e : (sumN P.m fun i => P.det β * (c (upd β r s i) * P.Tb (upd β r s) i j)) = sumN P.m fun i => (P.Tb β r s * (c (β i) * P.Tb β i j) - P.Tb β r j * (c (β i) * P.Tb β i s)) + if i = r then c s * (P.det β * P.Tb β r j) else 0 := sumN_ext fun i hi => by
    rw [Int.mul_left_comm, three' h hr hi]
    by_cases q : i = r
    · subst q
      rw [if_pos rfl, if_pos rfl, upd_at]
      rw [Int.mul_comm (P.Tb β i j) (P.Tb β i s), Int.sub_self, Int.zero_add, Int.mul_left_comm (P.Tb β i s) (c (β i)), Int.mul_left_comm (P.Tb β i j) (c (β i)), Int.mul_comm (P.Tb β i j) (P.Tb β i s), Int.sub_self, Int.zero_add]
    · rw [if_neg q, if_neg q, upd_ne q, Int.add_zero, Int.add_zero, Int.mul_sub, Int.mul_left_comm (P.Tb β r s) (c (β i)), Int.mul_left_comm (P.Tb β r j) (c (β i)), Int.mul_comm (P.Tb β i j) (P.Tb β r s), Int.mul_comm (P.Tb β i s) (P.Tb β r j)]
  rw [e, sum_at hr, sumN_sub, sumN_mul, sumN_mul, det_upd, Int.sub_mul, Int.sub_mul]
  generalize sumN P.m (fun i => c (β i) * P.Tb β i j) = a
  generalize sumN P.m (fun i => c (β i) * P.Tb β i s) = b
  have e1 : P.det β * (P.Tb β r s * c j) = P.det β * c j * P.Tb β r s := by rw [Int.mul_comm (P.Tb β r s), Int.mul_assoc]
  have e2 : c s * (P.det β * P.Tb β r j) = P.det β * c s * P.Tb β r j := by rw [Int.mul_left_comm, Int.mul_assoc]
  rw [e1, e2, Int.mul_comm a, Int.mul_comm b]; omega
theorem Stp.inv (h : P.Inv β) (q : P.Stp c β r s) : P.Inv (upd β r s) := by
  refine ⟨by rw [det_upd]; exact q.pos, fun i hi => ?_, fun j x hx => cr_upd h q.hr q.pos hx, fun i hi => ?_⟩
  · by_cases e : i = r
    · rw [e, upd_at]; have := q.hs; unfold Pb.N; omega
    · rw [upd_ne e]; exact h.lt i hi
  · by_cases e : i = r
    · rw [e, Tb_upd_r]; exact h.feas r q.hr
    · have t := three h q.hr hi e (s := s) (j := P.N)
      have f1 := h.feas i hi
      have f2 := h.feas r q.hr
      have p := q.pos
      have : 0 ≤ P.det β * P.Tb (upd β r s) i P.N := by
        rw [t]
        by_cases z : 0 < P.Tb β i s
        · rcases q.rat i hi z with w | ⟨w, _⟩
          · rw [Int.mul_comm (P.Tb β i s)]; omega
          · rw [Int.mul_comm (P.Tb β i s)]; omega
        · have a := Int.mul_nonneg f1 (Int.le_of_lt p)
          have b := Int.mul_nonneg (show 0 ≤ -P.Tb β i s by omega) f2
          rw [Int.neg_mul] at b
          omega
      apply Classical.byContradiction
      intro w
      have := Int.mul_neg_of_pos_of_neg h.pos (show P.Tb (upd β r s) i P.N < 0 by omega)
      omega
/-- where a column would lessen the costs, some row limits it, if no cost is below 0 -/
theorem some_pos (h : P.Inv β) (hc : ∀ j, 0 ≤ c j) (hs : P.cost c β s < 0) : ∃ i, i < P.m ∧ 0 < P.Tb β i s := by
  apply Classical.byContradiction
  intro q
  have a : 0 ≤ P.det β * c s := Int.mul_nonneg (Int.le_of_lt h.pos) (hc s)
  have b : 0 ≤ sumN P.m fun i => (-1) * (c (β i) * P.Tb β i s) := sumN_nonneg fun i hi => by
    have z : ¬ 0 < P.Tb β i s := fun w => q ⟨i, hi, w⟩
    have := Int.mul_nonneg (hc (β i)) (show 0 ≤ -P.Tb β i s by omega)
    rw [Int.mul_neg] at this
    omega
  rw [sumN_mul] at b
  unfold Pb.cost at hs
  omega
/-- the costs of one basis, the direction of another -/
theorem cross (h : P.Inv β) {β' : Nat → Nat} : P.det β * P.cost c β' s - sumN P.m (fun i => P.Tb β i s * P.cost c β' (β i)) = P.det β' * P.cost c β s := by
  have e1 : (sumN P.m fun i => P.Tb β i s * P.cost c β' (β i)) = P.det β' * (sumN P.m fun i => c (β i) * P.Tb β i s) - sumN P.m fun k => c (β' k) * (P.det β * P.Tb β' k s) := by
    have : (sumN P.m fun k => c (β' k) * (P.det β * P.Tb β' k s)) = sumN P.m fun i => sumN P.m fun k => P.Tb β i s * (c (β' k) * P.Tb β' k (β i)) := by
      rw [sumN_swap]
      refine sumN_ext fun k hk => ?_
      rw [Tb_lin h hk, ← sumN_mul]
      exact sumN_ext fun i _ => Int.mul_left_comm ..
    rw [this, ← sumN_mul, ← sumN_sub]
    refine sumN_ext fun i hi => ?_
    rw [sumN_mul]
    unfold Pb.cost
    rw [Int.mul_sub, Int.mul_comm (c (β i)), Int.mul_left_comm (P.Tb β i s)]
  have e2 : (sumN P.m fun k => c (β' k) * (P.det β * P.Tb β' k s)) = P.det β * sumN P.m fun k => c (β' k) * P.Tb β' k s := by
    rw [← sumN_mul]
    exact sumN_ext fun i _ => Int.mul_left_comm ..
  rw [e1, e2]
  unfold Pb.cost
  rw [Int.mul_sub, Int.mul_sub, Int.mul_left_comm (P.det β) (P.det β')]
  omega
end
end Sx

set_option Elab.async false
set_option linter.all false
/-! S3: Bland's rule: no basis comes twice; so there is an end. -/
namespace Sx
/-- a run of turns from p to q -/
structure Run (P : Pb) (c : Nat → Int) (γ : Nat → Nat → Nat) (r s : Nat → Nat) (p q : Nat) : Prop where
  inv : ∀ k, p ≤ k → k ≤ q → P.Inv (γ k)
  st : ∀ k, p ≤ k → k < q → P.Stp c (γ k) (r k) (s k)
  nx : ∀ k, p ≤ k → k < q → γ (k + 1) = upd (γ k) (r k) (s k)
section
variable {P : Pb} {c : Nat → Int} {γ : Nat → Nat → Nat} {r s : Nat → Nat} {p q : Nat}
def InB (P : Pb) (β : Nat → Nat) (j : Nat) : Prop := ∃ i, i < P.m ∧ β i = j
theorem nin_of_neg {β : Nat → Nat} {j : Nat} (h : P.cost c β j ≠ 0) : ¬ InB P β j := fun ⟨i, hi, e⟩ => h (by rw [← e]; exact cost_basis hi)
namespace Run
theorem obj (R : Run P c γ r s p q) {k : Nat} (h1 : p ≤ k) (h2 : k < q) : P.det (γ k) * P.cost c (γ (k + 1)) P.N = P.cost c (γ k) P.N * P.det (γ (k + 1)) - P.cost c (γ k) (s k) * P.Tb (γ k) (r k) P.N := by
  have st := R.st k h1 h2
  rw [R.nx k h1 h2, cost_upd (R.inv k h1 (by omega)) st.hr, det_upd]
theorem mono (R : Run P c γ r s p q) {a : Nat} (ha : p ≤ a) : ∀ b, a ≤ b → b ≤ q → P.cost c (γ a) P.N * P.det (γ b) ≤ P.cost c (γ b) P.N * P.det (γ a) := by
  intro b
  induction b with
  | zero => intro h _; have : a = 0 := by omega
            subst this; exact Int.le_refl _
  | succ b ih =>
    intro h1 h2
    by_cases e : a = b + 1
    · subst e; exact Int.le_refl _
    · have ih := ih (by omega) (by omega)
      have st := R.st b (by omega) (by omega)
      have f := (R.inv b (by omega) (by omega)).feas _ st.hr
      have o := R.obj (k := b) (by omega) (by omega)
      have pa := (R.inv a ha (by omega)).pos
      have pb := (R.inv b (by omega) (by omega)).pos
      have pc := (R.inv (b + 1) (by omega) (by omega)).pos
      have z : 0 ≤ -P.cost c (γ b) (s b) * P.Tb (γ b) (r b) P.N := Int.mul_nonneg (by have := st.neg; omega) f
      rw [Int.neg_mul] at z
      generalize P.cost c (γ a) P.N = oa at *
      generalize P.cost c (γ b) P.N = ob at *
      generalize P.cost c (γ (b + 1)) P.N = oc at *
      generalize P.det (γ a) = da at *
      generalize P.det (γ b) = db at *
      generalize P.det (γ (b + 1)) = dc at *
      apply Int.le_of_mul_le_mul_left (a := db) _ pb
      have y : ob * dc ≤ db * oc := by omega
      have y2 := Int.mul_le_mul_of_nonneg_right y (Int.le_of_lt pa)
      have ih2 := Int.mul_le_mul_of_nonneg_right ih (Int.le_of_lt pc)
      have e1 : db * (oa * dc) = oa * db * dc := by rw [Int.mul_left_comm, Int.mul_assoc]
      have e2 : ob * da * dc = ob * dc * da := by rw [Int.mul_assoc, Int.mul_comm da, ← Int.mul_assoc]
      have e3 : db * (oc * da) = db * oc * da := (Int.mul_assoc ..).symm
      rw [e1, e3]
      omega
/-- in a ring of turns every right side that turns is 0 -/
theorem degen (R : Run P c γ r s p q) (hc : γ p = γ q) {k : Nat} (h1 : p ≤ k) (h2 : k < q) : P.Tb (γ k) (r k) P.N = 0 := by
  have st := R.st k h1 h2
  have f := (R.inv k h1 (by omega)).feas _ st.hr
  apply Classical.byContradiction
  intro ne
  have o := R.obj h1 h2
  have m1 := R.mono (Nat.le_refl p) k h1 (by omega)
  have m2 := R.mono (a := k + 1) (by omega) q (by omega) (Nat.le_refl q)
  rw [← hc] at m2
  have pp := (R.inv p (Nat.le_refl p) (by omega)).pos
  have pk := (R.inv k h1 (by omega)).pos
  have pc := (R.inv (k + 1) (by omega) (by omega)).pos
  have z : 0 < -P.cost c (γ k) (s k) * P.Tb (γ k) (r k) P.N := Int.mul_pos (by have := st.neg; omega) (by omega)
  rw [Int.neg_mul] at z
  generalize P.cost c (γ p) P.N = op at *
  generalize P.cost c (γ k) P.N = ok at *
  generalize P.cost c (γ (k + 1)) P.N = oc at *
  generalize P.det (γ p) = dp at *
  generalize P.det (γ k) = dk at *
  generalize P.det (γ (k + 1)) = dc at *
  -- op dk <= ok dp; oc dp <= op dc; ok dc < dk oc
  have y : ok * dc < dk * oc := by omega
  have a1 := Int.mul_le_mul_of_nonneg_right m1 (Int.le_of_lt pc)
  have a2 := Int.mul_le_mul_of_nonneg_right m2 (Int.le_of_lt pk)
  have a3 := Int.mul_lt_mul_of_pos_right y pp
  have e1 : ok * dp * dc = ok * dc * dp := by rw [Int.mul_assoc, Int.mul_comm dp, ← Int.mul_assoc]
  have e2 : oc * dp * dk = dk * oc * dp := by rw [Int.mul_comm _ dk, ← Int.mul_assoc]
  have e3 : op * dc * dk = op * dk * dc := by rw [Int.mul_assoc, Int.mul_comm dc, ← Int.mul_assoc]
  omega
theorem in_nx (R : Run P c γ r s p q) {k j : Nat} (h1 : p ≤ k) (h2 : k < q) : InB P (γ (k + 1)) j ↔ j = s k ∨ (InB P (γ k) j ∧ j ≠ γ k (r k)) := by
  have st := R.st k h1 h2
  have iv := R.inv k h1 (by omega)
  rw [R.nx k h1 h2]
  constructor
  · rintro ⟨i, hi, e⟩
    by_cases z : i = r k
    · subst z; rw [upd_at] at e; exact .inl e.symm
    · rw [upd_ne z] at e
      exact .inr ⟨⟨i, hi, e⟩, fun w => z (inj iv hi st.hr (e.trans w))⟩
  · rintro (e | ⟨⟨i, hi, e⟩, n⟩)
    · exact ⟨r k, st.hr, by rw [upd_at, e]⟩
    · have z : i ≠ r k := fun w => n (by rw [← e, w])
      exact ⟨i, hi, by rw [upd_ne z]; exact e⟩
theorem enters (R : Run P c γ r s p q) {a j : Nat} (ha : p ≤ a) : ∀ b, a ≤ b → b ≤ q → ¬ InB P (γ a) j → InB P (γ b) j → ∃ k, a ≤ k ∧ k < b ∧ s k = j := by
  intro b
  induction b with
  | zero => intro h _ n i; have : a = 0 := by omega
            subst this; exact absurd i n
  | succ b ih =>
    intro h1 h2 n i
    by_cases e : a = b + 1
    · subst e; exact absurd i n
    · rcases (R.in_nx (by omega) (by omega)).mp i with w | w
      · exact ⟨b, by omega, by omega, w.symm⟩
      · obtain ⟨k, x, y, z⟩ := ih (by omega) (by omega) n w.1
        exact ⟨k, x, by omega, z⟩
theorem goes (R : Run P c γ r s p q) {a j : Nat} (ha : p ≤ a) : ∀ b, a ≤ b → b ≤ q → InB P (γ a) j → ¬ InB P (γ b) j → ∃ k, a ≤ k ∧ k < b ∧ γ k (r k) = j := by
  intro b
  induction b with
  | zero => intro h _ i n; have : a = 0 := by omega
            subst this; exact absurd i n
  | succ b ih =>
    intro h1 h2 i n
    by_cases e : a = b + 1
    · subst e; exact absurd i n
    · by_cases w : InB P (γ b) j
      · refine ⟨b, by omega, by omega, ?_⟩
        apply Classical.byContradiction
        intro z
        exact n ((R.in_nx (by omega) (by omega)).mpr (.inr ⟨w, Ne.symm z⟩))
      · obtain ⟨k, x, y, z⟩ := ih (by omega) (by omega) i w
        exact ⟨k, x, by omega, z⟩
/-- what is in at one time and out at another comes in at some time -/
theorem fickle (R : Run P c γ r s p q) (hc : γ p = γ q) {a b j : Nat} (ha : p ≤ a ∧ a ≤ q) (hb : p ≤ b ∧ b ≤ q) (hi : InB P (γ a) j) (hn : ¬ InB P (γ b) j) : ∃ k, p ≤ k ∧ k < q ∧ s k = j := by
  by_cases e : b ≤ a
  · obtain ⟨k, x, y, z⟩ := R.enters hb.1 a e ha.2 hn hi
    exact ⟨k, by omega, by omega, z⟩
  · by_cases w : InB P (γ q) j
    · obtain ⟨k, x, y, z⟩ := R.enters hb.1 q hb.2 (Nat.le_refl q) hn w
      exact ⟨k, by omega, by omega, z⟩
    · obtain ⟨k, x, y, z⟩ := R.enters (Nat.le_refl p) a ha.1 ha.2 (by rw [hc]; exact w) hi
      exact ⟨k, by omega, by omega, z⟩
theorem zero_nx (R : Run P c γ r s p q) (hc : γ p = γ q) {k j : Nat} (h1 : p ≤ k) (h2 : k < q) (h : s k = j ∨ ∀ i, i < P.m → γ k i = j → P.Tb (γ k) i P.N = 0) : ∀ i, i < P.m → γ (k + 1) i = j → P.Tb (γ (k + 1)) i P.N = 0 := by
  intro i hi e
  have st := R.st k h1 h2
  have iv := R.inv k h1 (by omega)
  have d := R.degen hc h1 h2
  rw [R.nx k h1 h2] at e ⊢
  by_cases z : i = r k
  · rw [z, Tb_upd_r]; exact d
  · rw [upd_ne z] at e
    have t := three iv st.hr hi z (s := s k) (j := P.N)
    have zi : P.Tb (γ k) i P.N = 0 := by
      rcases h with h | h
      · exact absurd ⟨i, hi, e.trans h.symm⟩ (nin_of_neg (c := c) (by have := st.neg; omega))
      · exact h i hi e
    rw [zi, d, Int.mul_zero, Int.zero_mul] at t
    rcases Int.mul_eq_zero.mp t with w | w
    · have := iv.pos; omega
    · exact w
theorem zeros (R : Run P c γ r s p q) (hc : γ p = γ q) {k0 j : Nat} (h1 : p ≤ k0) (h2 : k0 < q) (h : s k0 = j) : ∀ k, p ≤ k → k ≤ q → ∀ i, i < P.m → γ k i = j → P.Tb (γ k) i P.N = 0 := by
  have up : ∀ a, p ≤ a → (∀ i, i < P.m → γ a i = j → P.Tb (γ a) i P.N = 0) → ∀ k, a ≤ k → k ≤ q → ∀ i, i < P.m → γ k i = j → P.Tb (γ k) i P.N = 0 := by
    intro a ha h0 k
    induction k with
    | zero => intro h _; have : a = 0 := by omega
              subst this; exact h0
    | succ k ih =>
      intro x y
      by_cases e : a = k + 1
      · subst e; exact h0
      · exact R.zero_nx hc (by omega) (by omega) (.inr (ih (by omega) (by omega)))
  have z := R.zero_nx hc h1 h2 (.inl h)
  have zq := up (k0 + 1) (by omega) z q (by omega) (Nat.le_refl q)
  have zp : ∀ i, i < P.m → γ p i = j → P.Tb (γ p) i P.N = 0 := by rw [hc]; exact zq
  exact up p (Nat.le_refl p) zp
theorem top (p q : Nat) (s : Nat → Nat) (h : p < q) : ∃ k0, p ≤ k0 ∧ k0 < q ∧ ∀ k, p ≤ k → k < q → s k ≤ s k0 := by
  induction q with
  | zero => omega
  | succ q ih =>
    by_cases e : p = q
    · subst e
      exact ⟨p, Nat.le_refl p, by omega, fun k a b => by have : k = p := by omega
                                                         subst this; exact Nat.le_refl _⟩
    · obtain ⟨k0, a, b, d⟩ := ih (by omega)
      by_cases w : s q ≤ s k0
      · exact ⟨k0, a, by omega, fun k x y => by
          by_cases z : k = q
          · subst z; exact w
          · exact d k x (by omega)⟩
      · exact ⟨q, by omega, by omega, fun k x y => by
          by_cases z : k = q
          · subst z; exact Nat.le_refl _
          · have := d k x (by omega); omega⟩
/-- no ring of turns -/
theorem noring (R : Run P c γ r s p q) (hpq : p < q) (hc : γ p = γ q) : False := by
  obtain ⟨k0, a1, a2, mx⟩ := top p q s hpq
  have st0 := R.st k0 a1 a2
  have iv0 := R.inv k0 a1 (by omega)
  have n0 : ¬ InB P (γ k0) (s k0) := nin_of_neg (c := c) (by have := st0.neg; omega)
  have i0 : InB P (γ (k0 + 1)) (s k0) := (R.in_nx a1 a2).mpr (.inl rfl)
  have : ∃ k1, p ≤ k1 ∧ k1 < q ∧ γ k1 (r k1) = s k0 := by
    by_cases w : InB P (γ q) (s k0)
    · obtain ⟨k, x, y, z⟩ := R.goes (Nat.le_refl p) k0 a1 (by omega) (by rw [hc]; exact w) n0
      exact ⟨k, by omega, by omega, z⟩
    · obtain ⟨k, x, y, z⟩ := R.goes (a := k0 + 1) (by omega) q (by omega) (Nat.le_refl q) i0 w
      exact ⟨k, by omega, by omega, z⟩
  obtain ⟨k1, b1, b2, lv⟩ := this
  have st1 := R.st k1 b1 b2
  have iv1 := R.inv k1 b1 (by omega)
  have X := cross iv1 (c := c) (β' := γ k0) (s := s k1)
  have neg : P.det (γ k0) * P.cost c (γ k1) (s k1) < 0 := Int.mul_neg_of_pos_of_neg iv0.pos st1.neg
  by_cases A : P.cost c (γ k0) (s k1) < 0
  · have le := mx k1 b1 b2
    by_cases e : s k1 = s k0
    · exact nin_of_neg (c := c) (β := γ k1) (j := s k1) (by have := st1.neg; omega) ⟨r k1, st1.hr, by rw [lv, e]⟩
    · have := st0.fst (s k1) (by omega)
      omega
  · have a := Int.mul_nonneg (Int.le_of_lt iv1.pos) (show 0 ≤ P.cost c (γ k0) (s k1) by omega)
    have sn : sumN P.m (fun i => (-1) * (P.Tb (γ k1) i (s k1) * P.cost c (γ k0) (γ k1 i))) < 0 := by rw [sumN_mul]; omega
    obtain ⟨i, hi, ei⟩ := sumN_neg sn
    have ei : 0 < P.Tb (γ k1) i (s k1) * P.cost c (γ k0) (γ k1 i) := by omega
    have cn : P.cost c (γ k0) (γ k1 i) ≠ 0 := fun z => by rw [z, Int.mul_zero] at ei; omega
    obtain ⟨k2, x, y, z⟩ := R.fickle hc (a := k1) (b := k0) (j := γ k1 i) ⟨b1, by omega⟩ ⟨a1, by omega⟩ ⟨i, hi, rfl⟩ (nin_of_neg cn)
    have le := mx k2 x y
    rw [z] at le
    by_cases e : γ k1 i = s k0
    · have : i = r k1 := inj iv1 hi st1.hr (e.trans lv.symm)
      subst this
      rw [lv] at ei
      have := Int.mul_neg_of_pos_of_neg st1.pos st0.neg
      omega
    · have c0 := st0.fst (γ k1 i) (by omega)
      have tp : 0 < P.Tb (γ k1) i (s k1) := by
        apply Classical.byContradiction
        intro w
        have := Int.mul_nonneg (show 0 ≤ -P.Tb (γ k1) i (s k1) by omega) c0
        rw [Int.neg_mul] at this
        omega
      have zi := R.zeros hc x y z k1 b1 (by omega) i hi rfl
      have zr := R.degen hc b1 b2
      rcases st1.rat i hi tp with w | ⟨_, w⟩
      · rw [zi, zr, Int.zero_mul, Int.zero_mul] at w; omega
      · rw [lv] at w; omega
end Run
/-! ### how many bases there are -/
def code (N : Nat) (β : Nat → Nat) : Nat → Nat
  | 0 => 0
  | m + 1 => code N β m * N + β m
theorem code_lt {N : Nat} {β : Nat → Nat} : ∀ {m : Nat}, (∀ i, i < m → β i < N) → code N β m < N ^ m
  | 0, _ => by show 0 < 1; omega
  | m + 1, h => by
    have a := code_lt (N := N) (β := β) (m := m) fun i hi => h i (by omega)
    have b := h m (by omega)
    show code N β m * N + β m < N ^ m * N
    have : (code N β m + 1) * N ≤ N ^ m * N := Nat.mul_le_mul_right N a
    rw [Nat.succ_mul] at this
    omega
theorem code_inj {N : Nat} {β β' : Nat → Nat} : ∀ {m : Nat}, (∀ i, i < m → β i < N) → (∀ i, i < m → β' i < N) → code N β m = code N β' m → ∀ i, i < m → β i = β' i
  | 0, _, _, _ => fun i hi => by omega
  | m + 1, h, h', e => fun i hi => by
    have b := h m (by omega)
    have b' := h' m (by omega)
    have e : code N β m * N + β m = code N β' m * N + β' m := e
    have e1 : β m = β' m := by
      have := congrArg (· % N) e
      simp only [Nat.mul_comm _ N, Nat.mul_add_mod, Nat.mod_eq_of_lt b, Nat.mod_eq_of_lt b'] at this
      exact this
    by_cases z : i = m
    · rw [z]; exact e1
    · refine code_inj (m := m) (fun i hi => h i (by omega)) (fun i hi => h' i (by omega)) ?_ i (by omega)
      have : code N β m * N = code N β' m * N := by omega
      exact Nat.eq_of_mul_eq_mul_right (by omega) this
theorem pigeon : ∀ (K : Nat) (f : Nat → Nat), (∀ i, i ≤ K → f i < K) → ∃ p q, p < q ∧ q ≤ K ∧ f p = f q
  | 0, f, h => absurd (h 0 (Nat.le_refl 0)) (by omega)
  | K + 1, f, h => by
    by_cases w : ∃ p, p < K + 1 ∧ f p = f (K + 1)
    · obtain ⟨p, a, b⟩ := w
      exact ⟨p, K + 1, a, Nat.le_refl _, b⟩
    · -- the value at K + 1 is taken out
      obtain ⟨p, q, a, b, e⟩ := pigeon K (fun i => if f i < f (K + 1) then f i else f i - 1) fun i hi => by
        have h1 := h i (by omega)
        have h2 := h (K + 1) (Nat.le_refl _)
        have h3 : f i ≠ f (K + 1) := fun z => w ⟨i, by omega, z⟩
        show (if f i < f (K + 1) then f i else f i - 1) < K
        split <;> omega
      refine ⟨p, q, a, by omega, ?_⟩
      have h1 : f p ≠ f (K + 1) := fun z => w ⟨p, by omega, z⟩
      have h2 : f q ≠ f (K + 1) := fun z => w ⟨q, by omega, z⟩
      have e : (if f p < f (K + 1) then f p else f p - 1) = if f q < f (K + 1) then f q else f q - 1 := e
      split at e <;> split at e <;> omega
/-- a run has less than N ^ m + 1 turns -/
theorem Run.short (R : Run P c γ r s 0 q) : q ≤ P.N ^ P.m := by
  apply Classical.byContradiction
  intro w
  have same : ∀ k, k ≤ q → ∀ i, P.m ≤ i → γ k i = γ 0 i := by
    intro k
    induction k with
    | zero => intro _ i _; rfl
    | succ k ih =>
      intro hk i hi
      have st := R.st k (by omega) (by omega)
      rw [R.nx k (by omega) (by omega), upd_ne (by have := st.hr; omega)]
      exact ih (by omega) i hi
  obtain ⟨a, b, h1, h2, e⟩ := pigeon (P.N ^ P.m) (fun k => code P.N (γ k) P.m) fun k hk => code_lt (R.inv k (by omega) (by omega)).lt
  have ia := R.inv a (by omega) (by omega)
  have ib := R.inv b (by omega) (by omega)
  have e2 := code_inj ia.lt ib.lt e
  have e3 : γ a = γ b := by
    funext i
    by_cases z : i < P.m
    · exact e2 i z
    · rw [same a (by omega) i (by omega), same b (by omega) i (by omega)]
  exact Run.noring (q := b) (p := a) (P := P) (c := c) (γ := γ) (r := r) (s := s) ⟨fun k x y => R.inv k (by omega) (by omega), fun k x y => R.st k (by omega) (by omega), fun k x y => R.nx k (by omega) (by omega)⟩ h1 e3
/-- as long as every basis that is not the end has a turn, there is an end -/
theorem ends {β : Nat → Nat} (h0 : P.Inv β) (fin : (Nat → Nat) → Prop) (go : ∀ β, P.Inv β → ¬ fin β → ∃ r s, P.Stp c β r s) :
    ∃ q γ r s, Run P c γ r s 0 q ∧ γ 0 = β ∧ fin (γ q) ∧ ∀ k, k < q → ¬ fin (γ k) := by
  have key : ∀ k, (∃ q γ r s, Run P c γ r s 0 q ∧ γ 0 = β ∧ fin (γ q) ∧ ∀ k, k < q → ¬ fin (γ k)) ∨ ∃ γ r s, Run P c γ r s 0 k ∧ γ 0 = β ∧ ∀ j, j < k → ¬ fin (γ j) := by
    intro k
    induction k with
    | zero => exact .inr ⟨fun _ => β, fun _ => 0, fun _ => 0, ⟨fun k _ _ => h0, fun k _ h => by omega, fun k _ h => by omega⟩, rfl, fun j hj => by omega⟩
    | succ k ih =>
      rcases ih with ih | ⟨γ, r, s, R, e, nf⟩
      · exact .inl ih
      · by_cases w : fin (γ k)
        · exact .inl ⟨k, γ, r, s, R, e, w, nf⟩
        · have iv := R.inv k (by omega) (Nat.le_refl k)
          obtain ⟨r', s', st⟩ := go (γ k) iv w
          refine .inr ⟨fun j => if j ≤ k then γ j else upd (γ k) r' s', fun j => if j = k then r' else r j, fun j => if j = k then s' else s j, ⟨fun j _ hj => ?_, fun j _ hj => ?_, fun j _ hj => ?_⟩, ?_, fun j hj => ?_⟩
          · by_cases z : j ≤ k
            · simp only [z, if_true]; exact R.inv j (by omega) z
            · simp only [z, if_false]; exact Stp.inv iv st
          · have z : j ≤ k := by omega
            simp only [z, if_true]
            by_cases y : j = k
            · subst y; simp only [if_true]; exact st
            · simp only [y, if_false]; exact R.st j (by omega) (by omega)
          · have z : j ≤ k := by omega
            simp only [z, if_true]
            by_cases y : j = k
            · subst y
              have : ¬ j + 1 ≤ j := by omega
              simp only [this, if_false, if_true]
            · have : j + 1 ≤ k := by omega
              simp only [this, y, if_false, if_true]
              exact R.nx j (by omega) (by omega)
          · simp only [Nat.zero_le, if_true]; exact e
          · have z : j ≤ k := by omega
            simp only [z, if_true]
            by_cases y : j = k
            · subst y; exact w
            · exact nf j (by omega)
  rcases key (P.N ^ P.m + 1) with h | ⟨γ, r, s, R, _, _⟩
  · exact h
  · have := R.short
    omega
end
end Sx

set_option Elab.async false
set_option linter.all false
set_option maxRecDepth 100000
set_option maxHeartbeats 4000000
/-! S4: the program's tableau reckons the plain one. Over an FX that has Tableau. -/
namespace Lw
open PySem Tx Sx
/-- not too big to be reckoned with -/
def Sm (x : Int) : Prop := x.natAbs < 2 ^ 300
theorem Sm.log {x : Int} (h : Sm x) : x.natAbs.log2 < 300 := by
  by_cases z : x.natAbs = 0
  · rw [z]; decide
  · exact (Nat.log2_lt z).mpr h
theorem mulR_sm {a b : Int} (ha : Sm a) (hb : Sm b) : mulR a b = .ok (a * b) := mulR_w (by have := ha.log; have := hb.log; omega)
theorem divR_sm {a b : Int} (h : 0 < b) (hb : Sm b) : divR a b = .ok (a / b) := divR_w h (by have := hb.log; omega)
/-- all numbers that come up are not too big -/
structure Sz (P : Pb) (c : Nat → Int) : Prop where
  det : ∀ β, (∀ i, i < P.m → β i < P.N) → Sm (P.det β)
  tb : ∀ β, (∀ i, i < P.m → β i < P.N) → ∀ i, i < P.m → ∀ j, j ≤ P.N → Sm (P.Tb β i j)
  cost : ∀ β, (∀ i, i < P.m → β i < P.N) → ∀ j, j ≤ P.N → Sm (P.cost c β j)
  N : P.N ≤ 1000
def row (P : Pb) (β : Nat → Nat) (i : Nat) : List Int := vec (P.N + 1) (P.Tb β i)
def tab (P : Pb) (c : Nat → Int) (β : Nat → Nat) : CTableau := ⟨(P.n : Int), (P.m : Int), vec P.m (row P β), vec P.m (fun i => (β i : Int)), P.det β, vec (P.N + 1) (P.cost c β)⟩
theorem cleared_ok {t : CTableau} {M : Nat} {a b g : Nat → Int} {pv : Int} {s : Nat} (hd : 0 < t.scale) (sd : Sm t.scale) (hs : s < M) (sa : ∀ j, j < M → Sm (a j)) (sb : ∀ j, j < M → Sm (b j)) (sp : Sm pv) (hg : ∀ j, j < M → t.scale * g j = a j * pv - a s * b j) :
    f_Tableau_cleared t (vec M a) (vec M b) pv (s : Int) = .ok (vec M g) := by
  unfold f_Tableau_cleared
  rw [vec_ix hs, R.okb, vec_zip, vec_mapR (q := g) fun j hj => ?_, noX_ok]
  rw [mulR_sm (sa j hj) sp, R.okb, mulR_sm (sa s hs) (sb j hj), R.okb, R.okb, ← hg j hj, divR_sm hd sd, Int.mul_ediv_cancel_left _ (by omega)]
section
variable {P : Pb} {c : Nat → Int} {β : Nat → Nat} {r s : Nat}
theorem turn_ok (z : Sz P c) (h : P.Inv β) (st : P.Stp c β r s) : f_Tableau_turn (tab P c β) (r : Int) (s : Int) = .ok (tab P c (upd β r s)) := by
  have hN : P.N = P.n + P.m := rfl
  have hs : s < P.N + 1 := by have := st.hs; omega
  have zN := z.N
  unfold f_Tableau_turn
  have er : ixR (tab P c β).rows (r : Int) = .ok (row P β r) := vec_ix st.hr
  have ep : ixR (row P β r) (s : Int) = .ok (P.Tb β r s) := vec_ix hs
  rw [er, R.okb, ep, R.okb, R.okb, R.okb, R.okb]
  have szc : ∀ i, i < P.m → ∀ j, j < P.N + 1 → Sm (P.Tb β i j) := fun i hi j hj => z.tb β h.lt i hi j (by omega)
  obtain ⟨s', e1, e2⟩ := forR_inv (f := f_Tableau_turn_l1 (tab P c β) (r : Int) (s : Int) (P.Tb β r s) (row P β r)) (xs := enumL 0 (tab P c β).rows) (s := []) (fun i l => l = vec i (row P (upd β r s))) rfl fun i x l hx hl => by
    subst hl
    rw [enumL_get] at hx
    cases hq : (tab P c β).rows[i]? with
    | none => rw [hq] at hx; cases hx
    | some y =>
      rw [hq] at hx
      simp only [Option.map_some, Option.some.injEq] at hx
      subst hx
      have hi : i < P.m := by have := (List.getElem?_eq_some_iff.mp hq).1; simpa [tab] using this
      have hy : row P β i = y := by
        have : (tab P c β).rows[i]? = some (row P β i) := vec_get hi
        rw [this] at hq; exact Option.some.inj hq
      subst hy
      refine ⟨_, ?_, rfl⟩
      unfold f_Tableau_turn_l1
      have e3 : (iteR (R.ok (decide (((0 + i : Nat) : Int) = (r : Int)))) (R.ok (row P β r)) (f_Tableau_cleared (tab P c β) (row P β i) (row P β r) (P.Tb β r s) (s : Int))) = .ok (row P (upd β r s) i) := by
        rw [iteR_okb]
        by_cases q : i = r
        · subst q
          rw [if_pos (by simp)]
          exact congrArg R.ok (vec_ext fun j _ => Tb_upd_r.symm)
        · rw [if_neg (fun w => q (by have := of_decide_eq_true w; omega))]
          exact cleared_ok h.pos (z.det β h.lt) hs (szc i hi) (szc r st.hr) (szc r st.hr s hs) fun j hj => three h st.hr hi q
      show ((iteR (R.ok (decide (((0 + i : Nat) : Int) = (r : Int)))) (R.ok (row P β r)) (f_Tableau_cleared (tab P c β) (row P β i) (row P β r) (P.Tb β r s) (s : Int))).bind _).bind _ = _
      rw [e3, R.okb, appR_ok (by rw [vec_len]; omega), R.okb, vec_snoc]
  rw [e1, R.okb]
  have ec : f_Tableau_cleared (tab P c β) (tab P c β).costs (row P β r) (P.Tb β r s) (s : Int) = .ok (vec (P.N + 1) (P.cost c (upd β r s))) :=
    cleared_ok h.pos (z.det β h.lt) hs (fun j hj => z.cost β h.lt j (by omega)) (szc r st.hr) (szc r st.hr s hs) fun j hj => cost_upd h st.hr
  rw [ec, R.okb, R.okb, R.okb]
  have eb : putR (tab P c β).basis (r : Int) (s : Int) = .ok (vec P.m fun i => ((upd β r s i : Nat) : Int)) := by
    refine (vec_put st.hr).trans (congrArg R.ok (vec_ext fun j hj => ?_))
    unfold upd
    split <;> rfl
  rw [eb, R.okb, e2, enumL_len]
  have el : (tab P c β).rows.length = P.m := vec_len
  rw [el]
  unfold tab
  rw [det_upd]
theorem loop_find {α β : Type} {f : α → Unit → R (Lc Unit β)} {p : α → Bool} {g : α → β} : ∀ (xs : List α), (∀ x ∈ xs, f x () = .ok (if p x = true then .rt (g x) else .nx ())) → loopR f xs () = .ok (match xs.find? p with | some x => .inr (g x) | none => .inl ())
  | [], _ => rfl
  | x :: xs, h => by
    show (f x ()).bind _ = _
    rw [h x List.mem_cons_self, R.okb, List.find?_cons]
    cases q : p x with
    | true => rfl
    | false => exact loop_find xs fun y hy => h y (List.mem_cons_of_mem _ hy)
/-- the first column that lessens the costs -/
def firstNeg (n : Nat) (f : Nat → Int) : Option Nat := (List.range n).find? fun j => decide (f j < 0)
theorem firstNeg_none {n : Nat} {f : Nat → Int} : firstNeg n f = none ↔ ∀ j, j < n → 0 ≤ f j := by
  unfold firstNeg
  rw [List.find?_eq_none]
  constructor
  · intro h j hj
    have := h j (List.mem_range.mpr hj)
    simp at this; omega
  · intro h j hj
    have := h j (List.mem_range.mp hj)
    simp; omega
theorem firstNeg_some {n s : Nat} {f : Nat → Int} (h : firstNeg n f = some s) : s < n ∧ f s < 0 ∧ ∀ j, j < s → 0 ≤ f j := by
  unfold firstNeg at h
  rw [List.find?_eq_some_iff_getElem] at h
  obtain ⟨h1, i, hi, e, h2⟩ := h
  rw [List.getElem_range] at e
  subst e
  rw [List.length_range] at hi
  refine ⟨hi, by simpa using h1, fun j hj => ?_⟩
  have := h2 j hj
  rw [List.getElem_range] at this
  simp at this; omega
theorem enter_ok (z : Sz P c) : f_Tableau_entering (tab P c β) = .ok ((firstNeg P.n (P.cost c β)).map fun j : Nat => (j : Int)) := by
  have zN := z.N
  have hN : P.N = P.n + P.m := rfl
  unfold f_Tableau_entering
  rw [show (tab P c β).columns = ((P.n : Nat) : Int) from rfl, rng1_nat (by omega), R.okb]
  rw [loop_find (p := fun x : Int => decide (P.cost c β x.toNat < 0)) (g := fun x => some x) (rangeN P.n) fun x hx => ?_]
  · unfold rangeN firstNeg
    rw [List.find?_map]
    have : ((fun x : Int => decide (P.cost c β x.toNat < 0)) ∘ fun k : Nat => (k : Int)) = fun j : Nat => decide (P.cost c β j < 0) := by funext j; simp
    rw [this]
    cases (List.range P.n).find? fun j => decide (P.cost c β j < 0) <;> rfl
  · have := rangeN_mem.mp hx
    unfold f_Tableau_entering_l1
    rw [show (tab P c β).costs = vec (P.N + 1) (P.cost c β) from rfl, vec_ixi ⟨this.1, by omega⟩, R.okb, iteR_okb]
    split <;> rfl
/-! ### the row that limits -/
/-- the row i limits column s no later than the row k -/
def Lex (P : Pb) (β : Nat → Nat) (s i k : Nat) : Prop := P.Tb β i P.N * P.Tb β k s < P.Tb β k P.N * P.Tb β i s ∨ (P.Tb β i P.N * P.Tb β k s = P.Tb β k P.N * P.Tb β i s ∧ β i ≤ β k)
theorem Lex.refl (i : Nat) : Lex P β s i i := .inr ⟨rfl, Nat.le_refl _⟩
theorem Lex.trans {i j k : Nat} (pi : 0 < P.Tb β i s) (pj : 0 < P.Tb β j s) (pk : 0 < P.Tb β k s) (h1 : Lex P β s i j) (h2 : Lex P β s j k) : Lex P β s i k := by
  unfold Lex at *
  generalize P.Tb β i P.N = a at *
  generalize P.Tb β j P.N = b at *
  generalize P.Tb β k P.N = d at *
  generalize P.Tb β i s = x at *
  generalize P.Tb β j s = y at *
  generalize P.Tb β k s = w at *
  -- a y ? b x ; b w ? d y ; want a w ? d x
  have e1 : a * w * y = a * y * w := by rw [Int.mul_assoc, Int.mul_comm w, ← Int.mul_assoc]
  have e2 : b * w * x = b * x * w := by rw [Int.mul_assoc, Int.mul_comm w, ← Int.mul_assoc]
  have e3 : d * x * y = d * y * x := by rw [Int.mul_assoc, Int.mul_comm x, ← Int.mul_assoc]
  rcases h1 with h1 | ⟨h1, l1⟩ <;> rcases h2 with h2 | ⟨h2, l2⟩
  · left
    have q1 := Int.mul_lt_mul_of_pos_right h1 pk
    have q2 := Int.mul_lt_mul_of_pos_right h2 pi
    exact Int.lt_of_mul_lt_mul_right (a := y) (by omega) (Int.le_of_lt pj)
  · left
    have q1 := Int.mul_lt_mul_of_pos_right h1 pk
    have q2 : b * w * x = d * y * x := congrArg (· * x) h2
    exact Int.lt_of_mul_lt_mul_right (a := y) (by omega) (Int.le_of_lt pj)
  · left
    have q1 : a * y * w = b * x * w := congrArg (· * w) h1
    have q2 := Int.mul_lt_mul_of_pos_right h2 pi
    exact Int.lt_of_mul_lt_mul_right (a := y) (by omega) (Int.le_of_lt pj)
  · right
    have q1 : a * y * w = b * x * w := congrArg (· * w) h1
    have q2 : b * w * x = d * y * x := congrArg (· * x) h2
    exact ⟨Int.eq_of_mul_eq_mul_right (a := y) (by omega) (by omega), by omega⟩
theorem Lex.total (i k : Nat) (h : ¬ (P.Tb β i P.N * P.Tb β k s < P.Tb β k P.N * P.Tb β i s ∨ (P.Tb β i P.N * P.Tb β k s = P.Tb β k P.N * P.Tb β i s ∧ β i < β k))) : Lex P β s k i := by
  unfold Lex
  rcases Int.lt_trichotomy (P.Tb β i P.N * P.Tb β k s) (P.Tb β k P.N * P.Tb β i s) with q | q | q
  · exact absurd (.inl q) h
  · exact .inr ⟨q.symm, by
      apply Classical.byContradiction
      intro w
      exact h (.inr ⟨q, by omega⟩)⟩
  · exact .inl q
/-- what is kept as the best of the first i rows -/
def Best (P : Pb) (β : Nat → Nat) (s i : Nat) (o : Option Int) : Prop :=
  (o = none ∧ ∀ k, k < i → ¬ 0 < P.Tb β k s) ∨ ∃ r : Nat, o = some (r : Int) ∧ r < P.m ∧ 0 < P.Tb β r s ∧ ∀ k, k < i → 0 < P.Tb β k s → Lex P β s r k
theorem leave_ok (z : Sz P c) (h : P.Inv β) (hs : s < P.n) : ∃ o, f_Tableau_leaving (tab P c β) (s : Int) = .ok o ∧ Best P β s P.m o := by
  have hN : P.N = P.n + P.m := rfl
  have hs' : s < P.N + 1 := by omega
  have szc : ∀ i, i < P.m → ∀ j, j < P.N + 1 → Sm (P.Tb β i j) := fun i hi j hj => z.tb β h.lt i hi j (by omega)
  have last : ∀ i, i < P.m → ixR (row P β i) (-(1 : Int)) = .ok (P.Tb β i P.N) := fun i hi => by
    unfold row
    rw [vec_snoc]; exact ixR_last
  unfold f_Tableau_leaving
  rw [R.okb, R.okb]
  obtain ⟨o, e1, e2⟩ := forR_inv (f := f_Tableau_leaving_l1 (tab P c β) (s : Int)) (xs := enumL 0 (tab P c β).rows) (s := none) (fun i o => Best P β s i o) (.inl ⟨rfl, fun k hk => by omega⟩) fun i x o hx ho => by
    rw [enumL_get] at hx
    cases hq : (tab P c β).rows[i]? with
    | none => rw [hq] at hx; cases hx
    | some y =>
      rw [hq] at hx
      simp only [Option.map_some, Option.some.injEq] at hx
      subst hx
      have hi : i < P.m := by have := (List.getElem?_eq_some_iff.mp hq).1; simpa [tab] using this
      have hy : row P β i = y := by
        have : (tab P c β).rows[i]? = some (row P β i) := vec_get hi
        rw [this] at hq; exact Option.some.inj hq
      subst hy
      unfold f_Tableau_leaving_l1
      have ei : ixR (row P β i) (s : Int) = .ok (P.Tb β i s) := vec_ix hs'
      simp only [ei, R.okb, iteR_okb, Nat.zero_add]
      by_cases q : 0 < P.Tb β i s
      · rw [if_pos (by simpa using q)]
        rcases ho with ⟨rfl, hn⟩ | ⟨r, rfl, hr, pr, hl⟩
        · rw [if_pos (by rfl)]
          refine ⟨_, rfl, .inr ⟨i, rfl, hi, q, fun k hk pk => ?_⟩⟩
          by_cases w : k = i
          · subst w; exact Lex.refl k
          · exact absurd pk (hn k (by omega))
        · have er : ixR (tab P c β).rows (r : Int) = .ok (row P β r) := vec_ix hr
          have ers : ixR (row P β r) (s : Int) = .ok (P.Tb β r s) := vec_ix hs'
          have eb1 : ixR (tab P c β).basis (i : Int) = .ok ((β i : Nat) : Int) := vec_ix hi
          have eb2 : ixR (tab P c β).basis (r : Int) = .ok ((β r : Nat) : Int) := vec_ix hr
          have uo : ∀ x : Int, unO (some x) = R.ok x := fun _ => Eq.trans rfl rfl
          rw [if_neg (by simp)]
          simp only [last i hi, last r hr, uo, er, ers, eb1, eb2, R.okb]
          rw [mulR_sm (szc i hi _ (by omega)) (szc r hr s hs'), R.okb, mulR_sm (szc r hr _ (by omega)) (szc i hi s hs'), R.okb]
          have et : orR (R.ok (decide (P.Tb β i P.N * P.Tb β r s < P.Tb β r P.N * P.Tb β i s))) (andR (R.ok (decide (P.Tb β i P.N * P.Tb β r s = P.Tb β r P.N * P.Tb β i s))) (R.ok (decide (((β i : Nat) : Int) < ((β r : Nat) : Int))))) = R.ok (decide (P.Tb β i P.N * P.Tb β r s < P.Tb β r P.N * P.Tb β i s ∨ (P.Tb β i P.N * P.Tb β r s = P.Tb β r P.N * P.Tb β i s ∧ β i < β r))) := by
            rw [andR_ok, orR_ok]
            congr 1
            rw [Bool.eq_iff_iff]
            simp
          rw [et, iteR_okb]
          by_cases w : P.Tb β i P.N * P.Tb β r s < P.Tb β r P.N * P.Tb β i s ∨ (P.Tb β i P.N * P.Tb β r s = P.Tb β r P.N * P.Tb β i s ∧ β i < β r)
          · rw [if_pos (by simpa using w)]
            refine ⟨_, rfl, .inr ⟨i, rfl, hi, q, fun k hk pk => ?_⟩⟩
            have l : Lex P β s i r := by
              rcases w with w | ⟨w, v⟩
              · exact .inl w
              · exact .inr ⟨w, Nat.le_of_lt v⟩
            by_cases v : k = i
            · subst v; exact Lex.refl k
            · exact Lex.trans q pr pk l (hl k (by omega) pk)
          · rw [if_neg (by simpa using w)]
            refine ⟨_, rfl, .inr ⟨r, rfl, hr, pr, fun k hk pk => ?_⟩⟩
            by_cases v : k = i
            · subst v; exact Lex.total _ _ w
            · exact hl k (by omega) pk
      · rw [if_neg (by simpa using q)]
        refine ⟨_, rfl, ?_⟩
        rcases ho with ⟨rfl, hn⟩ | ⟨r, rfl, hr, pr, hl⟩
        · exact .inl ⟨rfl, fun k hk => by
            by_cases w : k = i
            · subst w; exact q
            · exact hn k (by omega)⟩
        · exact .inr ⟨r, rfl, hr, pr, fun k hk pk => by
            by_cases w : k = i
            · subst w; exact absurd pk q
            · exact hl k (by omega) pk⟩
  rw [e1, R.okb]
  refine ⟨o, rfl, ?_⟩
  rw [enumL_len] at e2
  have el : (tab P c β).rows.length = P.m := vec_len
  rw [el] at e2
  exact e2
theorem step_ok (z : Sz P c) (h : P.Inv β) (hc : ∀ j, 0 ≤ c j) (he : firstNeg P.n (P.cost c β) = some s) : ∃ r, P.Stp c β r s ∧ f_Tableau_leaving (tab P c β) (s : Int) = .ok (some (r : Int)) := by
  obtain ⟨a, b, d⟩ := firstNeg_some he
  obtain ⟨o, e1, e2⟩ := leave_ok z h a
  rcases e2 with ⟨rfl, hn⟩ | ⟨r, rfl, hr, pr, hl⟩
  · obtain ⟨i, hi, p⟩ := some_pos h hc b
    exact absurd p (hn i hi)
  · exact ⟨r, ⟨hr, a, b, d, pr, hl⟩, e1⟩
theorem Stp_uni (h : P.Inv β) {r' s' : Nat} (a : P.Stp c β r s) (b : P.Stp c β r' s') : r = r' ∧ s = s' := by
  have es : s = s' := by
    rcases Nat.lt_trichotomy s s' with q | q | q
    · have := b.fst s q; have := a.neg; omega
    · exact q
    · have := a.fst s' q; have := b.neg; omega
  subst es
  refine ⟨?_, rfl⟩
  have x := a.rat r' b.hr b.pos
  have y := b.rat r a.hr a.pos
  have e : β r = β r' := by
    rcases x with x | ⟨x, u⟩ <;> rcases y with y | ⟨y, v⟩ <;> omega
  exact inj h a.hr b.hr e
theorem search_ok (z : Sz P c) (h : P.Inv β) (hc : ∀ j, 0 ≤ c j) : ∃ β', P.Inv β' ∧ (∀ j, j < P.n → 0 ≤ P.cost c β' j) ∧ f_Tableau_search (tab P c β) = .ok (tab P c β') := by
  obtain ⟨q, γ, r, s, Rn, e0, fin, nf⟩ := ends (c := c) h (fun β => firstNeg P.n (P.cost c β) = none) fun β iv nf => by
    cases he : firstNeg P.n (P.cost c β) with
    | none => exact absurd he nf
    | some s =>
      obtain ⟨r, st, _⟩ := step_ok z iv hc he
      exact ⟨r, s, st⟩
  subst e0
  refine ⟨γ q, Rn.inv q (Nat.zero_le q) (Nat.le_refl q), firstNeg_none.mp fin, ?_⟩
  have run : ∀ d k, k + d = q → whileN f_Tableau_search_t1 f_Tableau_search_l1 (d + 1) ((firstNeg P.n (P.cost c (γ k))).map fun j : Nat => (j : Int), tab P c (γ k)) = .ok (none, tab P c (γ q)) := by
    intro d
    induction d with
    | zero =>
      intro k hk
      have : k = q := by omega
      subst this
      have fin : firstNeg P.n (P.cost c (γ k)) = none := fin
      rw [fin]
      unfold whileN f_Tableau_search_t1
      rfl
    | succ d ih =>
      intro k hk
      have st := Rn.st k (by omega) (by omega)
      have iv := Rn.inv k (by omega) (by omega)
      cases he : firstNeg P.n (P.cost c (γ k)) with
      | none => exact absurd he (nf k (by omega))
      | some s' =>
        obtain ⟨r', st', el⟩ := step_ok z iv hc he
        obtain ⟨er, es⟩ := Stp_uni iv st st'
        unfold whileN
        have et : f_Tableau_search_t1 ((some s').map fun j : Nat => (j : Int), tab P c (γ k)) = .ok true := by unfold f_Tableau_search_t1; rfl
        have uo : ∀ x : Int, unO (some x) = R.ok x := fun _ => Eq.trans rfl rfl
        have eb : f_Tableau_search_l1 ((some s').map fun j : Nat => (j : Int), tab P c (γ k)) = .ok ((firstNeg P.n (P.cost c (γ (k + 1)))).map fun j : Nat => (j : Int), tab P c (γ (k + 1))) := by
          unfold f_Tableau_search_l1
          simp only [Option.map_some, R.okb, uo]
          rw [el]
          simp only [R.okb, uo]
          rw [turn_ok z iv st', R.okb, ← er, ← es, ← Rn.nx k (by omega) (by omega), enter_ok z, R.okb]
        rw [et, R.okb]
        simp only
        rw [eb, R.okb]
        exact ih (k + 1) (by omega)
  unfold f_Tableau_search
  rw [enter_ok z, R.okb, whileR_of (run q 0 (by omega)), R.okb]
end
end Lw

set_option Elab.async false
set_option linter.all false
set_option maxRecDepth 100000
set_option maxHeartbeats 4000000
/-! S5: the first tableau, and what solve answers. -/
namespace Lw
open PySem Tx Sx
theorem Sm_small {x : Int} (h : x.natAbs < 2 ^ 64) : Sm x := Nat.lt_of_lt_of_le h (Nat.pow_le_pow_right (by decide) (by decide))
theorem cut_to {α : Type} {l : List α} {k : Nat} (h : k ≤ l.length) : cutL l none (some (k : Int)) = l.take k := by
  have e : sIxV l.length l.length (some (k : Int)) = k := by
    show (if (k : Int) < 0 then ((k : Int) + (l.length : Nat)).toNat else min (k : Int).toNat l.length) = k
    rw [if_neg (by omega)]; omega
  have e2 : sIxV l.length 0 none = 0 := rfl
  unfold cutL
  rw [e, e2]; rfl
theorem vec_take {α : Type} {m k : Nat} {f : Nat → α} (h : k ≤ m) : (vec m f).take k = vec k f := by
  unfold vec
  rw [← List.map_take]
  congr 1
  rw [List.take_range]
  congr 1; omega
/-- one row behind another -/
theorem vec_app {α : Type} {m k : Nat} {f g : Nat → α} : vec m f ++ vec k g = vec (m + k) fun j => if j < m then f j else g (j - m) := by
  apply List.ext_getElem?
  intro j
  by_cases h : j < m
  · rw [List.getElem?_append_left (by simpa using h), vec_get h, vec_get (by omega), if_pos h]
  · rw [List.getElem?_append_right (by simp; omega), vec_len]
    by_cases h2 : j < m + k
    · rw [vec_get (by omega), vec_get h2, if_neg h]
    · rw [List.getElem?_eq_none (by simp; omega), List.getElem?_eq_none (by simp; omega)]
theorem vec_one {α : Type} {x : α} : [x] = vec 1 fun _ => x := rfl
/-- the problem of equations A, each with its right side behind -/
def pbOf (m n : Nat) (A : Nat → Nat → Int) : Pb := ⟨m, n, fun j i => if j < n then A i j else if j < n + m then (if i = j - n then 1 else 0) else A i n⟩
theorem pbOf_ok (m n : Nat) (A : Nat → Nat → Int) : (pbOf m n A).Ok := ⟨fun k hk => by
  funext i
  show (if n + k < n then _ else if n + k < n + m then (if i = n + k - n then (1 : Int) else 0) else _) = unit k i
  have hk : k < m := hk
  rw [if_neg (by omega), if_pos (by omega), Nat.add_sub_cancel_left]; rfl⟩
section
variable {P : Pb}
/-- a column told by the marks -/
theorem col_sum (x : Nat → Int) {i : Nat} {m : Nat} (hi : i < m) : x i = sumN m fun k => x k * unit k i := by
  rw [sumN_one hi fun k _ hk => by rw [show unit k i = 0 from if_neg (Ne.symm hk), Int.mul_zero], show unit i i = 1 from if_pos rfl, Int.mul_one]
theorem Tb_marks (h : P.Ok) (β : Nat → Nat) {i : Nat} (hi : i < P.m) (j : Nat) : P.Tb β i j = sumN P.m fun k => P.T0 j k * P.Tb β i (P.n + k) := by
  unfold Pb.Tb
  rw [D_put (P.B β) (y := fun x => sumN P.m fun k => P.T0 j k * unit k x) fun x hx => col_sum _ hx, D_sum hi]
  exact sumN_ext fun k hk => by rw [h.e k hk]
def b0 (P : Pb) : Nat → Nat := fun i => P.n + i
theorem D_b0 (h : P.Ok) : P.det (b0 P) = 1 := by
  rw [← D_id P.m]
  exact D_ext fun j hj i _ => by show P.T0 (P.n + j) i = _; rw [h.e j hj]
theorem Tb_b0 (h : P.Ok) {i : Nat} (hi : i < P.m) (j : Nat) : P.Tb (b0 P) i j = P.T0 j i := by
  rw [Tb_marks h (b0 P) hi j, sumN_one hi fun k hk hn => ?_]
  · have := Tb_basis (P := P) (β := b0 P) hi hi
    rw [if_pos rfl] at this
    rw [show P.n + i = b0 P i from rfl, this, D_b0 h, Int.mul_one]
  · have := Tb_basis (P := P) (β := b0 P) hk hi
    rw [if_neg (Ne.symm hn)] at this
    rw [show P.n + k = b0 P k from rfl, this, Int.mul_zero]
theorem b0_inv (h : P.Ok) (hf : ∀ i, i < P.m → 0 ≤ P.T0 P.N i) : P.Inv (b0 P) := by
  refine ⟨by rw [D_b0 h]; decide, fun i hi => by show P.n + i < P.n + P.m; omega, fun j x hx => ?_, fun i hi => by rw [Tb_b0 h hi]; exact hf i hi⟩
  rw [D_b0 h, Int.one_mul, col_sum (P.T0 j) hx]
  exact sumN_ext fun i hi => by rw [Tb_b0 h hi, show b0 P i = P.n + i from rfl, h.e i hi]
/-- the costs of the marks -/
def cM (P : Pb) : Nat → Int := fun j => if j < P.n then 0 else if j < P.N then 1 else 0
theorem cM_nn (P : Pb) (j : Nat) : 0 ≤ cM P j := by unfold cM; split; decide; split <;> decide
theorem aim_ok {c : Nat → Int} (z : Sz P c) {β : Nat → Nat} (h : P.Inv β) (sc : ∀ j, Sm (c j)) (cN : c P.N = 0) (cs : List Int) :
    f_Tableau_aim { tab P c β with costs := cs } (vec P.N c) = .ok (tab P c β) := by
  have hN : P.N = P.n + P.m := rfl
  have zN := z.N
  unfold f_Tableau_aim
  rw [show ({ tab P c β with costs := cs } : CTableau).scale = P.det β from rfl, vec_mapR (q := fun j => P.det β * c j) fun j hj => mulR_sm (z.det β h.lt) (sc j), noX_ok, R.okb, catR_ok (by simp; omega), R.okb]
  have e0 : vec P.N (fun j => P.det β * c j) ++ [(0 : Int)] = vec (P.N + 1) fun j => P.det β * c j := by
    rw [vec_snoc, cN, Int.mul_zero]
  rw [e0, R.okb]
  obtain ⟨s', e1, e2⟩ := forR_inv (f := f_Tableau_aim_l1 { tab P c β with costs := cs } (vec P.N c)) (xs := enumL 0 ({ tab P c β with costs := cs } : CTableau).rows) (s := vec (P.N + 1) fun j => P.det β * c j) (fun i l => l = vec (P.N + 1) fun j => P.det β * c j - sumN i fun k => c (β k) * P.Tb β k j) (vec_ext fun j _ => by show _ = _ - 0; omega) fun i x l hx hl => by
    subst hl
    rw [enumL_get] at hx
    cases hq : ({ tab P c β with costs := cs } : CTableau).rows[i]? with
    | none => rw [hq] at hx; cases hx
    | some y =>
      rw [hq] at hx
      simp only [Option.map_some, Option.some.injEq] at hx
      subst hx
      have hq : (vec P.m (row P β))[i]? = some y := hq
      have hi : i < P.m := by have := (List.getElem?_eq_some_iff.mp hq).1; simpa using this
      have hy : row P β i = y := by rw [vec_get hi] at hq; exact Option.some.inj hq
      subst hy
      refine ⟨_, ?_, rfl⟩
      unfold f_Tableau_aim_l1
      have eb : ixR ({ tab P c β with costs := cs } : CTableau).basis ((0 + i : Nat) : Int) = .ok ((β i : Nat) : Int) := by rw [Nat.zero_add]; exact vec_ix hi
      have eb2 : ixR (vec P.N c) ((β i : Nat) : Int) = .ok (c (β i)) := vec_ix (h.lt i hi)
      simp only [eb, eb2, R.okb]
      unfold row
      rw [vec_zip, vec_mapR (q := fun j => P.det β * c j - sumN (i + 1) fun k => c (β k) * P.Tb β k j) fun j hj => ?_, noX_ok, R.okb]
      rw [mulR_sm (sc _) (z.tb β h.lt i hi j (by omega)), R.okb]
      refine congrArg R.ok ?_
      show _ = _ - (sumN i _ + c (β i) * P.Tb β i j)
      omega
  rw [e1, R.okb, R.okb, e2, enumL_len]
  have el : ({ tab P c β with costs := cs } : CTableau).rows.length = P.m := vec_len
  rw [el]
  rfl
end
theorem init_tab {m n : Nat} {A : Nat → Nat → Int} (z : Sz (pbOf m n A) (cM (pbOf m n A))) (hf : ∀ i, i < m → 0 ≤ A i n) :
    f_Tableau_init (vec m fun i => vec (n + 1) (A i)) (n : Int) = .ok (tab (pbOf m n A) (cM (pbOf m n A)) (b0 (pbOf m n A))) := by
  have hP := pbOf_ok m n A
  have hN : (pbOf m n A).N = n + m := rfl
  have zN := z.N
  have h0 : (pbOf m n A).Inv (b0 (pbOf m n A)) := b0_inv hP fun i hi => by
    show 0 ≤ if n + m < n then _ else if n + m < n + m then _ else A i n
    rw [if_neg (by omega), if_neg (by omega)]; exact hf i hi
  have er : ∀ i, i < m → row (pbOf m n A) (b0 (pbOf m n A)) i = vec (n + m + 1) fun j => (pbOf m n A).T0 j i := fun i hi => vec_ext fun j _ => Tb_b0 hP hi j
  unfold f_Tableau_init
  rw [R.okb, vec_len, R.okb, R.okb, R.okb]
  obtain ⟨s', e1, e2⟩ := forR_inv (f := f_Tableau_init_l1 (n : Int) ((m : Nat) : Int) (n : Int)) (xs := enumL 0 (vec m fun i => vec (n + 1) (A i))) (s := []) (fun i l => l = vec i (row (pbOf m n A) (b0 (pbOf m n A)))) rfl fun i x l hx hl => by
    subst hl
    rw [enumL_get] at hx
    by_cases hi : i < m
    · rw [vec_get hi] at hx
      simp only [Option.map_some, Option.some.injEq] at hx
      subst hx
      refine ⟨_, ?_, rfl⟩
      unfold f_Tableau_init_l1
      simp only [rng1_nat (show m ≤ 16000000 by omega), R.okb]
      rw [cut_to (by simp), vec_take (by omega), rangeN_vec, vec_map, catR_ok (by simp; omega), R.okb, vec_ix (by omega), R.okb, R.okb, catR_ok (by simp; omega), R.okb, appR_ok (by simp; omega), R.okb, vec_snoc (m := i), er i hi]
      refine congrArg R.ok (congrArg (_ ++ [·]) ?_)
      rw [vec_app, vec_one, vec_app]
      refine vec_ext fun j hj => ?_
      show _ = if j < n then A i j else if j < n + m then (if i = j - n then (1 : Int) else 0) else A i n
      by_cases q1 : j < n
      · rw [if_pos (by omega), if_pos q1, if_pos q1]
      · by_cases q2 : j < n + m
        · rw [if_pos q2, if_neg q1, if_neg q1, if_pos q2]
          simp only [decide_eq_true_eq]
          exact ite_iff (by omega)
        · rw [if_neg q2, if_neg q1, if_neg q2]
    · rw [List.getElem?_eq_none (by simp; omega)] at hx; cases hx
  rw [e1, R.okb, e2, enumL_len, vec_len, rng1_nat (by omega), R.okb, rangeN_vec, vec_map, R.okb, R.okb, R.okb, repR_one (by omega), R.okb, repR_one (by omega), R.okb, catR_ok (by simp; omega), R.okb]
  have ec : List.replicate n (0 : Int) ++ List.replicate m 1 = vec (n + m) (cM (pbOf m n A)) := by
    rw [vec_zero, vec_zero, vec_app]
    refine vec_ext fun j hj => ?_
    show _ = if j < n then (0 : Int) else if j < n + m then 1 else 0
    by_cases q : j < n
    · rw [if_pos q, if_pos q]
    · rw [if_neg q, if_neg q, if_pos hj]
  rw [ec]
  have ea := aim_ok z h0 (fun j => by unfold cM; split; exact Sm_small (by decide); split; exact Sm_small (by decide); exact Sm_small (by decide)) (by unfold cM; rw [if_neg (by show ¬ n + m < n; omega), if_neg (by omega)]) []
  have et : ({ tab (pbOf m n A) (cM (pbOf m n A)) (b0 (pbOf m n A)) with costs := [] } : CTableau) = CTableau.mk (n : Int) (m : Int) (vec m (row (pbOf m n A) (b0 (pbOf m n A)))) (vec m fun j => (n : Int) + (j : Int)) 1 [] := by
    unfold tab
    rw [D_b0 hP]
    refine congrArg (fun b => CTableau.mk (n : Int) (m : Int) _ b 1 []) (vec_ext fun j _ => ?_)
    show ((n + j : Nat) : Int) = _
    omega
  rw [et] at ea
  have ea : f_Tableau_aim (CTableau.mk (n : Int) (m : Int) (vec m (row (pbOf m n A) (b0 (pbOf m n A)))) (vec m fun j => (n : Int) + (j : Int)) 1 []) (vec (n + m) (cM (pbOf m n A))) = _ := ea
  rw [ea, R.okb]
section
variable {P : Pb} {c : Nat → Int} {β : Nat → Nat}
/-- the unknown j, times the scale -/
def xv (P : Pb) (β : Nat → Nat) (j : Nat) : Int := sumN P.m fun k => if β k = j then P.Tb β k P.N else 0
theorem found_ok (z : Sz P c) (h : P.Inv β) : f_Tableau_found (tab P c β) = .ok (vec P.n (xv P β)) := by
  have hN : P.N = P.n + P.m := rfl
  have zN := z.N
  unfold f_Tableau_found
  rw [show (tab P c β).columns = ((P.n : Nat) : Int) from rfl, repR_one (by omega), R.okb, R.okb, vec_zero]
  obtain ⟨s', e1, e2⟩ := forR_inv (f := f_Tableau_found_l1 (tab P c β)) (xs := enumL 0 (tab P c β).basis) (s := vec P.n fun _ => (0 : Int)) (fun i l => l = vec P.n fun j => sumN i fun k => if β k = j then P.Tb β k P.N else 0) rfl fun i x l hx hl => by
    subst hl
    rw [enumL_get] at hx
    by_cases hi : i < P.m
    · have hb : (tab P c β).basis[i]? = some ((β i : Nat) : Int) := vec_get hi
      rw [hb] at hx
      simp only [Option.map_some, Option.some.injEq] at hx
      subst hx
      refine ⟨_, ?_, rfl⟩
      unfold f_Tableau_found_l1
      have er : ixR (tab P c β).rows ((0 + i : Nat) : Int) = .ok (row P β i) := by rw [Nat.zero_add]; exact vec_ix hi
      have el : ixR (row P β i) (-(1 : Int)) = .ok (P.Tb β i P.N) := by
        unfold row
        rw [vec_snoc]; exact ixR_last
      simp only [er, el, R.okb, iteR_okb]
      rw [show (tab P c β).columns = ((P.n : Nat) : Int) from rfl]
      by_cases q : β i < P.n
      · rw [if_pos (by simp; omega), vec_put q, R.okb]
        refine congrArg R.ok (vec_ext fun j _ => ?_)
        show _ = sumN i _ + (if β i = j then P.Tb β i P.N else 0)
        by_cases w : j = β i
        · subst w
          rw [if_pos rfl, if_pos rfl, sumN_zero fun k hk => if_neg fun e => ?_]
          · omega
          · have := inj h (show k < P.m by omega) hi e; omega
        · rw [if_neg w, if_neg (Ne.symm w)]; omega
      · rw [if_neg (by simp; omega)]
        refine congrArg R.ok (vec_ext fun j hj => ?_)
        show _ = sumN i _ + (if β i = j then P.Tb β i P.N else 0)
        rw [if_neg (by omega)]; omega
    · have : (tab P c β).basis.length = P.m := vec_len
      rw [List.getElem?_eq_none (by omega)] at hx; cases hx
  rw [e1, R.okb, e2, enumL_len]
  have el : (tab P c β).basis.length = P.m := vec_len
  rw [el]; rfl
theorem xv_nn (h : P.Inv β) (j : Nat) : 0 ≤ xv P β j := sumN_nonneg fun k hk => by
  split
  · exact h.feas k hk
  · exact Int.le_refl 0
/-- no cost is left: the unknowns solve the equations -/
theorem no_sum (h : P.Inv β) (hz : P.cost (cM P) β P.N = 0) {x : Nat} (hx : x < P.m) : P.det β * P.T0 P.N x = sumN P.n fun j => xv P β j * P.T0 j x := by
  have hN : P.N = P.n + P.m := rfl
  have cz : cM P P.N = 0 := by unfold cM; rw [if_neg (by omega), if_neg (by omega)]
  unfold Pb.cost at hz
  rw [cz, Int.mul_zero] at hz
  have nz : ∀ k, k < P.m → P.n ≤ β k → P.Tb β k P.N = 0 := fun k hk hn => by
    apply Classical.byContradiction
    intro w
    have f := h.feas k hk
    have : sumN P.m (fun i => cM P (β i) * P.Tb β i P.N) ≠ 0 := by
      have e : sumN P.m (fun i => cM P (β i) * P.Tb β i P.N) = sumN P.m (fun i => (if i = k then 0 else cM P (β i) * P.Tb β i P.N) + if i = k then P.Tb β k P.N else 0) := sumN_ext fun i hi => by
        by_cases q : i = k
        · subst q
          have : cM P (β i) = 1 := by unfold cM; rw [if_neg (by omega), if_pos (h.lt i hi)]
          rw [if_pos rfl, if_pos rfl, this]; omega
        · rw [if_neg q, if_neg q]; omega
      rw [e, sum_at hk]
      have : 0 ≤ sumN P.m fun i => if i = k then 0 else cM P (β i) * P.Tb β i P.N := sumN_nonneg fun i hi => by
        split
        · exact Int.le_refl 0
        · exact Int.mul_nonneg (cM_nn P _) (h.feas i hi)
      omega
    omega
  rw [h.cr P.N x hx]
  have e : (sumN P.n fun j => xv P β j * P.T0 j x) = sumN P.n fun j => sumN P.m fun k => if β k = j then P.Tb β k P.N * P.T0 j x else 0 := sumN_ext fun j _ => by
    unfold xv
    rw [Int.mul_comm, ← sumN_mul]
    refine sumN_ext fun k _ => ?_
    split
    · exact Int.mul_comm ..
    · exact Int.mul_zero _
  rw [e, sumN_swap]
  refine sumN_ext fun k hk => ?_
  by_cases q : β k < P.n
  · rw [sumN_one q fun j _ hj => if_neg (Ne.symm hj), if_pos rfl]
  · rw [nz k hk (by omega), Int.zero_mul, sumN_zero fun j hj => if_neg (by omega)]
/-- the price of the equation k -/
def pr (P : Pb) (β : Nat → Nat) (k : Nat) : Int := P.det β - P.cost (cM P) β (P.n + k)
theorem pr_sum {k : Nat} (hk : k < P.m) : pr P β k = sumN P.m fun i => cM P (β i) * P.Tb β i (P.n + k) := by
  have hN : P.N = P.n + P.m := rfl
  have : cM P (P.n + k) = 1 := by unfold cM; rw [if_neg (by omega), if_pos (by omega)]
  unfold pr Pb.cost
  rw [this]; omega
theorem cost_pr (hP : P.Ok) {j : Nat} (hj : cM P j = 0) : P.cost (cM P) β j = -sumN P.m fun k => P.T0 j k * pr P β k := by
  unfold Pb.cost
  rw [hj, Int.mul_zero]
  have e1 : (sumN P.m fun k => P.T0 j k * pr P β k) = sumN P.m fun k => sumN P.m fun i => P.T0 j k * (cM P (β i) * P.Tb β i (P.n + k)) := sumN_ext fun k hk => by rw [pr_sum hk, sumN_mul]
  have e2 : (sumN P.m fun i => cM P (β i) * P.Tb β i j) = sumN P.m fun i => sumN P.m fun k => P.T0 j k * (cM P (β i) * P.Tb β i (P.n + k)) := sumN_ext fun i hi => by
    rw [Tb_marks hP β hi j, ← sumN_mul]
    exact sumN_ext fun k _ => Int.mul_left_comm ..
  rw [e1, e2, sumN_swap]; omega
theorem cost_le (h : P.Inv β) : P.cost (cM P) β P.N ≤ 0 := by
  have hN : P.N = P.n + P.m := rfl
  have cz : cM P P.N = 0 := by unfold cM; rw [if_neg (by omega), if_neg (by omega)]
  unfold Pb.cost
  rw [cz, Int.mul_zero]
  have : 0 ≤ sumN P.m fun i => cM P (β i) * P.Tb β i P.N := sumN_nonneg fun i hi => Int.mul_nonneg (cM_nn P _) (h.feas i hi)
  omega
end
end Lw

set_option Elab.async false
set_option linter.all false
set_option maxRecDepth 100000
set_option maxHeartbeats 4000000
/-! S6: solve. -/
namespace Lw
open PySem Tx Sx
theorem cut_but {α : Type} {m : Nat} {f : Nat → α} : cutL (vec (m + 1) f) none (some (-(1 : Int))) = vec m f := by
  have e : sIxV (vec (m + 1) f).length (vec (m + 1) f).length (some (-(1 : Int))) = m := by
    show (if (-(1 : Int)) < 0 then (-(1 : Int) + ((vec (m + 1) f).length : Nat)).toNat else min (-(1 : Int)).toNat (vec (m + 1) f).length) = m
    rw [if_pos (by decide), vec_len]; omega
  have e2 : sIxV (vec (m + 1) f).length 0 none = 0 := rfl
  unfold cutL
  rw [e, e2]
  exact vec_take (by omega)
/-! ### divisors -/
def gcdL (l : List Int) : Int := l.foldl gcdI 0
theorem gcdI_nn (a b : Int) : 0 ≤ gcdI a b := Int.natCast_nonneg _
theorem gcdI_dvd1 (a b : Int) : gcdI a b ∣ a := Int.gcd_dvd_left ..
theorem gcdI_dvd2 (a b : Int) : gcdI a b ∣ b := Int.gcd_dvd_right ..
theorem dvd_gcdI {a b k : Int} (h1 : k ∣ a) (h2 : k ∣ b) : k ∣ gcdI a b := Int.dvd_coe_gcd h1 h2
theorem gcdI_pos {a b : Int} (h : b ≠ 0) : 0 < gcdI a b := by
  have := gcdI_nn a b
  have d := gcdI_dvd2 a b
  rcases Int.lt_or_eq_of_le this with q | q
  · exact q
  · rw [← q] at d; exact absurd (Int.zero_dvd.mp d) h
theorem fold_dvd : ∀ (l : List Int) (a : Int), l.foldl gcdI a ∣ a ∧ ∀ x ∈ l, l.foldl gcdI a ∣ x
  | [], a => ⟨Int.dvd_refl a, by simp⟩
  | y :: l, a => by
    obtain ⟨h1, h2⟩ := fold_dvd l (gcdI a y)
    refine ⟨Int.dvd_trans h1 (gcdI_dvd1 a y), fun x hx => ?_⟩
    rcases List.mem_cons.mp hx with rfl | hx
    · exact Int.dvd_trans h1 (gcdI_dvd2 a x)
    · exact h2 x hx
theorem dvd_fold {k : Int} : ∀ (l : List Int) (a : Int), k ∣ a → (∀ x ∈ l, k ∣ x) → k ∣ l.foldl gcdI a
  | [], a, h, _ => h
  | y :: l, a, h, h2 => dvd_fold l (gcdI a y) (dvd_gcdI h (h2 y List.mem_cons_self)) fun x hx => h2 x (List.mem_cons_of_mem _ hx)
theorem fold_nn : ∀ (l : List Int) (a : Int), 0 ≤ a → 0 ≤ l.foldl gcdI a
  | [], a, h => h
  | y :: l, a, _ => fold_nn l _ (gcdI_nn a y)
theorem gcdL_dvd {l : List Int} {x : Int} (h : x ∈ l) : gcdL l ∣ x := (fold_dvd l 0).2 x h
theorem dvd_gcdL {l : List Int} {k : Int} (h : ∀ x ∈ l, k ∣ x) : k ∣ gcdL l := dvd_fold l 0 (Int.dvd_zero k) h
theorem gcdL_pos {l : List Int} {x : Int} (h : x ∈ l) (hx : x ≠ 0) : 0 < gcdL l := by
  have := fold_nn l 0 (Int.le_refl 0)
  have d := gcdL_dvd h
  rcases Int.lt_or_eq_of_le this with q | q
  · exact q
  · have q : 0 = gcdL l := q
    rw [← q] at d; exact absurd (Int.zero_dvd.mp d) hx
theorem gcdL_one {l : List Int} (hp : 0 < gcdL l) : gcdL (l.map fun x => x / gcdL l) = 1 := by
  have a : gcdL l * gcdL (l.map fun x => x / gcdL l) ∣ gcdL l := dvd_gcdL fun x hx => by
    have d := gcdL_dvd (List.mem_map_of_mem (f := fun x => x / gcdL l) hx)
    have e : x = gcdL l * (x / gcdL l) := (Int.mul_ediv_cancel' (gcdL_dvd hx)).symm
    conv => rhs; rw [e]
    exact Int.mul_dvd_mul_left _ d
  have nn := fold_nn (l.map fun x => x / gcdL l) 0 (Int.le_refl 0)
  have nn : 0 ≤ gcdL (l.map fun x => x / gcdL l) := nn
  obtain ⟨k, hk⟩ := a
  have hk : gcdL l * 1 = gcdL l * (gcdL (l.map fun x => x / gcdL l) * k) := by rw [Int.mul_one, ← Int.mul_assoc]; exact hk
  have := Int.eq_of_mul_eq_mul_left (by omega) hk
  exact Int.eq_one_of_dvd_one nn ⟨k, this⟩
theorem natAbs_ediv_le {x g : Int} (hg : 0 < g) (hd : g ∣ x) : (x / g).natAbs ≤ x.natAbs := by
  obtain ⟨k, rfl⟩ := hd
  rw [Int.mul_ediv_cancel_left _ (by omega), Int.natAbs_mul]
  exact Nat.le_mul_of_pos_left _ (by omega)
theorem without_ok {l : List Int} (hs : ∀ x ∈ l, Sm x) {y : Int} (hy : y ∈ l) (h0 : y ≠ 0) : f_without_divisor l = .ok (l.map fun x => x / gcdL l) := by
  have hp := gcdL_pos hy h0
  have sg : Sm (gcdL l) := by
    have d := gcdL_dvd hy
    have := Nat.le_of_dvd (by omega) (Int.natAbs_dvd_natAbs.mpr d)
    exact Nat.lt_of_le_of_lt this (hs y hy)
  unfold f_without_divisor
  rw [R.okb, R.okb]
  have : ∀ (xs : List Int) (a : Int), forR (f_without_divisor_l1 l) xs a = .ok (xs.foldl gcdI a) := by
    intro xs
    induction xs with
    | nil => intro a; rfl
    | cons x xs ih => intro a; show (f_without_divisor_l1 l x a).bind _ = _; unfold f_without_divisor_l1; rw [R.okb, R.okb]; exact ih _
  rw [this, R.okb]
  rw [show l.foldl gcdI 0 = gcdL l from rfl, mapR_of (g := fun x => x / gcdL l) fun x hx => ?_, noX_ok]
  exact divR_sm hp sg
/-- a fraction in lowest terms -/
def fr (a b : Int) : Int × Int := (a / gcdI a b, b / gcdI a b)
theorem fraction_ok {a b : Int} (hb : 0 < b) (hs : b.natAbs < 2 ^ 8000) : f_fraction a b = .ok (fr a b) := by
  have hp := gcdI_pos (a := a) (b := b) (by omega)
  have lg : (gcdI a b).natAbs.log2 < 9000 := by
    have := Nat.le_of_dvd (by omega) (Int.natAbs_dvd_natAbs.mpr (gcdI_dvd2 a b))
    have : (gcdI a b).natAbs < 2 ^ 8000 := by omega
    have := (Nat.log2_lt (k := 8000) (by omega)).mpr this
    omega
  unfold f_fraction
  rw [R.okb, iteR_okb, if_neg (by simp; omega), R.okb, divR_w hp lg, R.okb, divR_w hp lg, R.okb]
  rfl
section
variable {W : List (List Int)} {cn : Nat}
def wv (W : List (List Int)) (j i : Nat) : Int := (W.getD j []).getD i 0
/-- the equations of a list of conditions -/
def eqA (W : List (List Int)) (cn : Nat) (i j : Nat) : Int := if i < cn then (if j < W.length then wv W j (i + 1) else 0) else (if j < W.length then -wv W j 0 else 1)
def pbW (W : List (List Int)) (cn : Nat) : Pb := pbOf (cn + 1) W.length (eqA W cn)
/-- integers that refuse -/
structure NoAns (W : List (List Int)) (cn : Nat) (y : Nat → Int) : Prop where
  nn : ∀ j, j < W.length → 0 ≤ y j
  eq : ∀ i, i < cn → sumN W.length (fun j => y j * wv W j (i + 1)) = 0
  neg : sumN W.length (fun j => y j * wv W j 0) < 0
  sm : ∀ j, j < W.length → Sm (y j)
  one : gcdL (vec W.length y) = 1
/-- unknowns, each times d, that satisfy -/
structure YesAns (W : List (List Int)) (cn : Nat) (p : Nat → Int) (d : Int) : Prop where
  pos : 0 < d
  ge : ∀ j, j < W.length → 0 ≤ wv W j 0 * d + sumN cn fun k => p k * wv W j (k + 1)
  sp : ∀ k, k < cn → (p k).natAbs < 2 ^ 301
  sd : d.natAbs < 2 ^ 301
theorem equations_ok (hw : ∀ r ∈ W, r.length = cn + 1) (hl : W.length ≤ 1000) (hc : cn ≤ 1000) : f_equations_of W (vec cn fun _ => (0 : Int)) = .ok (vec cn fun i => vec (W.length + 1) (eqA W cn i)) := by
  unfold f_equations_of
  rw [R.okb, R.okb]
  obtain ⟨s', e1, e2⟩ := forR_inv (f := f_equations_of_l1 W) (xs := enumL 0 (vec cn fun _ => (0 : Int))) (s := []) (fun i l => l = vec i fun i => vec (W.length + 1) (eqA W cn i)) rfl fun i x l hx hl2 => by
    subst hl2
    rw [enumL_get] at hx
    by_cases hi : i < cn
    · rw [vec_get hi] at hx
      simp only [Option.map_some, Option.some.injEq] at hx
      subst hx
      refine ⟨_, ?_, rfl⟩
      unfold f_equations_of_l1
      rw [mapR_of (g := fun r : List Int => r.getD (i + 1) 0) fun r hr => ?_, noX_ok, R.okb, catR_ok (by simp; omega), R.okb, appR_ok (by simp; omega), R.okb, vec_snoc (m := i)]
      · refine congrArg R.ok (congrArg (_ ++ [·]) ?_)
        have : W.map (fun r : List Int => r.getD (i + 1) 0) = vec W.length fun j => wv W j (i + 1) := by
          conv => lhs; rw [vec_of W []]
          rw [vec_map]; rfl
        rw [this, vec_one, vec_app]
        refine vec_ext fun j hj => ?_
        unfold eqA
        rw [if_pos hi]
      · have := hw r hr
        show ixR r (((0 + i : Nat) : Int) + 1) = _
        rw [show (((0 + i : Nat) : Int) + 1) = ((i + 1 : Nat) : Int) by omega, ixR_D 0 (by omega) (by omega)]; rfl
    · rw [List.getElem?_eq_none (by simp; omega)] at hx; cases hx
  rw [e1, R.okb, e2, enumL_len, vec_len]
theorem solve_ok (hw : ∀ r ∈ W, r.length = cn + 1) (hl : W.length ≤ 1000) (hc : cn ≤ 1000) (z : Sz (pbW W cn) (cM (pbW W cn))) :
    (∃ y, NoAns W cn y ∧ f_solve W (cn : Int) = .ok (.no (vec W.length y))) ∨ ∃ p d, YesAns W cn p d ∧ f_solve W (cn : Int) = .ok (.yes (vec cn fun k => fr (p k) d)) := by
  have hP : (pbW W cn).Ok := pbOf_ok _ _ _
  have hN : (pbW W cn).N = W.length + (cn + 1) := rfl
  have en0 : ∀ i, (pbW W cn).T0 (pbW W cn).N i = eqA W cn i W.length := fun i => by
    show (if W.length + (cn + 1) < W.length then _ else if W.length + (cn + 1) < W.length + (cn + 1) then _ else eqA W cn i W.length) = _
    rw [if_neg (by omega), if_neg (by omega)]
  have ej : ∀ j i, j < W.length → (pbW W cn).T0 j i = eqA W cn i j := fun j i hj => by
    show (if j < W.length then eqA W cn i j else _) = _
    rw [if_pos hj]
  have hf : ∀ i, i < cn + 1 → 0 ≤ eqA W cn i W.length := fun i _ => by
    unfold eqA
    split
    · rw [if_neg (by omega)]; exact Int.le_refl 0
    · rw [if_neg (by omega)]; decide
  have h0 : (pbW W cn).Inv (b0 (pbW W cn)) := b0_inv hP fun i hi => by rw [en0]; exact hf i hi
  obtain ⟨β, iv, opt, es⟩ := search_ok z h0 (cM_nn _)
  have eT : (decide ((cn : Int) < 0) || (W.map fun v : List Int => decide ((v.length : Int) ≠ (cn : Int) + 1)).any id) = false := by
    rw [Bool.or_eq_false_iff]
    refine ⟨decide_eq_false (by omega), ?_⟩
    rw [List.any_map, List.any_eq_false]
    intro r hr
    have := hw r hr
    simp; omega
  have hfirst : mapR (fun v4 : List Int => ((ixR v4 (0 : Int)).bind fun x5 => R.ok (-x5))) W = .ok (vec W.length fun j => -wv W j 0) := by
    rw [mapR_of (g := fun r : List Int => -(r.getD 0 0)) fun r hr => ?_]
    · conv => lhs; rw [vec_of W []]
      rw [vec_map]; rfl
    · have := hw r hr
      rw [ixR_D 0 (by omega) (by omega), R.okb]; rfl
  have ecat : vec W.length (fun j => -wv W j 0) ++ [(1 : Int)] = vec (W.length + 1) (eqA W cn cn) := by
    rw [vec_one, vec_app]
    refine vec_ext fun j hj => ?_
    unfold eqA
    rw [if_neg (Nat.lt_irrefl cn)]
  have ecat2 : vec cn (fun i => vec (W.length + 1) (eqA W cn i)) ++ [vec (W.length + 1) (eqA W cn cn)] = vec (cn + 1) fun i => vec (W.length + 1) (eqA W cn i) := vec_snoc.symm
  have ei := init_tab (m := cn + 1) (n := W.length) (A := eqA W cn) z hf
  have start : f_solve W (cn : Int) = iteR ((ixR (tab (pbW W cn) (cM (pbW W cn)) β).costs (-(1 : Int))).bind fun x13 => R.ok (decide (x13 = (0 : Int))))
      ((((f_Tableau_found (tab (pbW W cn) (cM (pbW W cn)) β)).bind fun x16 => (f_without_divisor x16)).bind fun x17 => R.ok (SolA.no x17)))
      (((rng1 ((cn : Int) + (1 : Int))).bind fun x20 => (noX (mapR (fun v18 : Int => ((ixR (tab (pbW W cn) (cM (pbW W cn)) β).costs ((W.length : Int) + v18)).bind fun x19 => R.ok ((tab (pbW W cn) (cM (pbW W cn)) β).scale - x19))) x20))).bind fun prices21 =>
      ((noX (mapR (fun v25 : Int => ((ixR prices21 (-(1 : Int))).bind fun x26 => (f_fraction (-v25) x26))) (cutL prices21 none (some (-(1 : Int)))))).bind fun x27 => R.ok (SolA.yes x27))) := by
    unfold f_solve
    rw [eT, iteR_okb, if_neg (by decide), hfirst, noX_ok, R.okb, catR_ok (by simp; omega), R.okb, ecat, repR_one (by omega), R.okb, vec_zero, equations_ok hw hl hc, R.okb, catR_ok (by simp; omega), R.okb, ecat2, ei, R.okb]
    have es : f_Tableau_search (tab (pbOf (cn + 1) W.length (eqA W cn)) (cM (pbOf (cn + 1) W.length (eqA W cn))) (b0 (pbOf (cn + 1) W.length (eqA W cn)))) = _ := es
    rw [es, R.okb]
  have elast : ixR (tab (pbW W cn) (cM (pbW W cn)) β).costs (-(1 : Int)) = .ok ((pbW W cn).cost (cM (pbW W cn)) β (pbW W cn).N) := by
    show ixR (vec ((pbW W cn).N + 1) _) _ = _
    rw [vec_snoc]; exact ixR_last
  rw [start, elast, R.okb, iteR_okb]
  by_cases hz : (pbW W cn).cost (cM (pbW W cn)) β (pbW W cn).N = 0
  · left
    rw [if_pos (by simpa using hz), found_ok z iv, R.okb]
    have sums : ∀ i, i < cn + 1 → (pbW W cn).det β * eqA W cn i W.length = sumN W.length fun j => xv (pbW W cn) β j * eqA W cn i j := fun i hi => by
      have := no_sum iv hz (x := i) hi
      rw [en0] at this
      rw [this]
      exact sumN_ext fun j hj => by rw [ej j i hj]
    have s0 := sums cn (by omega)
    have e1 : eqA W cn cn W.length = 1 := by unfold eqA; rw [if_neg (by omega), if_neg (by omega)]
    rw [e1, Int.mul_one] at s0
    have e2 : (sumN W.length fun j => xv (pbW W cn) β j * eqA W cn cn j) = -sumN W.length fun j => xv (pbW W cn) β j * wv W j 0 := by
      have : (sumN W.length fun j => xv (pbW W cn) β j * eqA W cn cn j) = sumN W.length fun j => (-1) * (xv (pbW W cn) β j * wv W j 0) := sumN_ext fun j hj => by
        unfold eqA
        rw [if_neg (by omega), if_pos hj, Int.mul_neg]; omega
      rw [this, sumN_mul]; omega
    rw [e2] at s0
    have sneg : sumN W.length (fun j => xv (pbW W cn) β j * wv W j 0) < 0 := by have := iv.pos; omega
    have sxv : ∀ j, Sm (xv (pbW W cn) β j) := fun j => by
      unfold xv
      by_cases q : ∃ k, k < (pbW W cn).m ∧ β k = j
      · obtain ⟨k, hk, e⟩ := q
        rw [sumN_one hk fun i hi hn => if_neg fun w => hn (inj iv hi hk (w.trans e.symm)), if_pos e]
        exact z.tb β iv.lt k hk _ (Nat.le_refl _)
      · rw [sumN_zero fun k hk => if_neg fun w => q ⟨k, hk, w⟩]
        exact Sm_small (by decide)
    obtain ⟨j0, hj0, n0⟩ := sumN_neg sneg
    have x0 : xv (pbW W cn) β j0 ≠ 0 := fun w => by rw [w, Int.zero_mul] at n0; omega
    have hmem : xv (pbW W cn) β j0 ∈ vec W.length (xv (pbW W cn) β) := vec_mem.mpr ⟨j0, hj0, rfl⟩
    have hg := gcdL_pos hmem x0
    have ew := without_ok (l := vec W.length (xv (pbW W cn) β)) (fun x hx => by obtain ⟨j, _, rfl⟩ := vec_mem.mp hx; exact sxv j) hmem x0
    have ew : f_without_divisor (vec (pbW W cn).n (xv (pbW W cn) β)) = _ := ew
    have dv : ∀ j, j < W.length → xv (pbW W cn) β j = gcdL (vec W.length (xv (pbW W cn) β)) * (xv (pbW W cn) β j / gcdL (vec W.length (xv (pbW W cn) β))) := fun j hj => (Int.mul_ediv_cancel' (gcdL_dvd (vec_mem.mpr ⟨j, hj, rfl⟩))).symm
    have one := gcdL_one hg
    rw [vec_map] at ew one
    generalize gcdL (vec W.length (xv (pbW W cn) β)) = g at *
    refine ⟨fun j => xv (pbW W cn) β j / g, ⟨fun j _ => Int.ediv_nonneg (xv_nn iv j) (Int.le_of_lt hg), fun i hi => ?_, ?_, fun j hj => Nat.lt_of_le_of_lt (natAbs_ediv_le hg ⟨_, dv j hj⟩) (sxv j), one⟩, by rw [ew, R.okb]⟩
    · have s := sums i (by omega)
      have e3 : eqA W cn i W.length = 0 := by unfold eqA; rw [if_pos hi, if_neg (by omega)]
      rw [e3, Int.mul_zero] at s
      have e4 : (sumN W.length fun j => xv (pbW W cn) β j * eqA W cn i j) = g * sumN W.length fun j => (xv (pbW W cn) β j / g) * wv W j (i + 1) := by
        rw [← sumN_mul]
        refine sumN_ext fun j hj => ?_
        unfold eqA
        rw [if_pos hi, if_pos hj, ← Int.mul_assoc, ← dv j hj]
      rw [e4] at s
      rcases Int.mul_eq_zero.mp s.symm with w | w
      · omega
      · exact w
    · have e4 : (sumN W.length fun j => xv (pbW W cn) β j * wv W j 0) = g * sumN W.length fun j => (xv (pbW W cn) β j / g) * wv W j 0 := by
        rw [← sumN_mul]
        exact sumN_ext fun j hj => by rw [← Int.mul_assoc, ← dv j hj]
      rw [e4] at sneg
      apply Classical.byContradiction
      intro w
      have := Int.mul_nonneg (Int.le_of_lt hg) (show 0 ≤ sumN W.length (fun j => (xv (pbW W cn) β j / g) * wv W j 0) by omega)
      omega
  · right
    rw [if_neg (by simpa using hz), show (cn : Int) + 1 = ((cn + 1 : Nat) : Int) by omega, rng1_nat (by omega), R.okb, rangeN_vec]
    rw [vec_mapR (q := fun k => pr (pbW W cn) β k) fun k hk => ?_]
    · rw [noX_ok, R.okb, cut_but]
      have epl : ixR (vec (cn + 1) fun k => pr (pbW W cn) β k) (-(1 : Int)) = .ok (pr (pbW W cn) β cn) := by rw [vec_snoc]; exact ixR_last
      have cl := cost_le iv
      have cz : ∀ j, j < W.length → cM (pbW W cn) j = 0 := fun j hj => by unfold cM; exact if_pos hj
      have cN : cM (pbW W cn) (pbW W cn).N = 0 := by unfold cM; rw [if_neg (by rw [hN]; show ¬ W.length + (cn + 1) < W.length; omega), if_neg (by omega)]
      have eN := cost_pr (β := β) hP cN
      have sN : (sumN (pbW W cn).m fun k => (pbW W cn).T0 (pbW W cn).N k * pr (pbW W cn) β k) = pr (pbW W cn) β cn := by
        show sumN (cn + 1) _ = _
        rw [sumN_one (r := cn) (by omega) fun k hk hn => ?_]
        · rw [en0]
          have : eqA W cn cn W.length = 1 := by unfold eqA; rw [if_neg (by omega), if_neg (by omega)]
          rw [this, Int.one_mul]
        · rw [en0]
          have : eqA W cn k W.length = 0 := by unfold eqA; rw [if_pos (by omega), if_neg (by omega)]
          rw [this, Int.zero_mul]
      rw [sN] at eN
      have dp : 0 < pr (pbW W cn) β cn := by omega
      have spr : ∀ k, k < cn + 1 → (pr (pbW W cn) β k).natAbs < 2 ^ 301 := fun k hk => by
        have a : ((pbW W cn).det β).natAbs < 2 ^ 300 := z.det β iv.lt
        have b : ((pbW W cn).cost (cM (pbW W cn)) β ((pbW W cn).n + k)).natAbs < 2 ^ 300 := z.cost β iv.lt _ (by rw [hN]; show W.length + k ≤ _; omega)
        unfold pr
        have e : (2 : Nat) ^ 301 = 2 ^ 300 + 2 ^ 300 := by decide +kernel
        rw [e]
        generalize (2 : Nat) ^ 300 = t at a b
        omega
      refine ⟨fun k => -pr (pbW W cn) β k, pr (pbW W cn) β cn, ⟨dp, fun j hj => ?_, fun k hk => by have := spr k (by omega); rw [Int.natAbs_neg]; exact this, spr cn (by omega)⟩, ?_⟩
      · have o := opt j hj
        rw [cost_pr hP (cz j hj)] at o
        have e : (sumN (pbW W cn).m fun k => (pbW W cn).T0 j k * pr (pbW W cn) β k) = (sumN cn fun k => wv W j (k + 1) * pr (pbW W cn) β k) + -wv W j 0 * pr (pbW W cn) β cn := by
          show sumN cn _ + (pbW W cn).T0 j cn * pr (pbW W cn) β cn = _
          have e1 : (pbW W cn).T0 j cn = -wv W j 0 := by rw [ej j cn hj]; unfold eqA; rw [if_neg (by omega), if_pos hj]
          rw [e1]
          congr 1
          refine sumN_ext fun k hk => ?_
          rw [ej j k hj]
          unfold eqA
          rw [if_pos hk, if_pos hj]
        have e3 : (sumN cn fun k => -pr (pbW W cn) β k * wv W j (k + 1)) = -sumN cn fun k => wv W j (k + 1) * pr (pbW W cn) β k := by
          have : (sumN cn fun k => -pr (pbW W cn) β k * wv W j (k + 1)) = sumN cn fun k => (-1) * (wv W j (k + 1) * pr (pbW W cn) β k) := sumN_ext fun k _ => by
            rw [Int.neg_mul, Int.mul_comm]; omega
          rw [this, sumN_mul]; omega
        rw [e, Int.neg_mul] at o
        rw [e3]; omega
      · rw [vec_mapR (q := fun k => fr (-pr (pbW W cn) β k) (pr (pbW W cn) β cn)) fun k hk => ?_, noX_ok, R.okb]
        rw [epl, R.okb, fraction_ok dp (Nat.lt_trans (spr cn (by omega)) (Nat.pow_lt_pow_right (by decide) (by decide)))]
    · rw [show (W.length : Int) + (k : Int) = ((W.length + k : Nat) : Int) by omega]
      have : ixR (tab (pbW W cn) (cM (pbW W cn)) β).costs ((W.length + k : Nat) : Int) = .ok ((pbW W cn).cost (cM (pbW W cn)) β (W.length + k)) := vec_ix (by rw [hN]; omega)
      rw [this, R.okb]; rfl
end
/-! ### sizes -/
theorem bd_pos {K : Nat} (h : 1 ≤ K) : ∀ m, 1 ≤ bd m K
  | 0 => Nat.le_refl 1
  | m + 1 => Nat.mul_pos (by omega) (Nat.mul_pos h (bd_pos h m))
theorem bd_step {K : Nat} (h : 1 ≤ K) (m : Nat) : bd m K ≤ bd (m + 1) K := by
  show bd m K ≤ (m + 1) * (K * bd m K)
  have a : bd m K ≤ K * bd m K := Nat.le_mul_of_pos_left _ h
  have b : K * bd m K ≤ (m + 1) * (K * bd m K) := Nat.le_mul_of_pos_left _ (by omega)
  omega
theorem bd_mono {K : Nat} (h : 1 ≤ K) {m n : Nat} (hm : m ≤ n) : bd m K ≤ bd n K := by
  induction n with
  | zero => have : m = 0 := by omega
            subst this; exact Nat.le_refl _
  | succ n ih =>
    by_cases e : m = n + 1
    · subst e; exact Nat.le_refl _
    · exact Nat.le_trans (ih (by omega)) (bd_step h n)
theorem sz_of {P : Pb} {c : Nat → Int} {K C : Nat} (hK : ∀ j, j ≤ P.N → ∀ i, i < P.m → (P.T0 j i).natAbs ≤ K) (hC : ∀ j, (c j).natAbs ≤ C) (h1 : 1 ≤ C) (hb : bd P.m K * (C * (P.m + 1)) < 2 ^ 300) (hN : P.N ≤ 1000) : Sz P c := by
  have dB : ∀ β : Nat → Nat, (∀ i, i < P.m → β i < P.N) → (P.det β).natAbs ≤ bd P.m K := fun β h => D_bound fun j hj i hi => hK (β j) (by have := h j hj; omega) i hi
  have tB : ∀ β : Nat → Nat, (∀ i, i < P.m → β i < P.N) → ∀ i, i < P.m → ∀ j, j ≤ P.N → (P.Tb β i j).natAbs ≤ bd P.m K := fun β h i hi j hj => D_bound fun k hk x hx => by
    unfold upd
    split
    · exact hK j hj x hx
    · exact hK (β k) (by have := h k hk; omega) x hx
  have le : bd P.m K ≤ bd P.m K * (C * (P.m + 1)) := Nat.le_mul_of_pos_right _ (Nat.mul_pos h1 (by omega))
  refine ⟨fun β h => Nat.lt_of_le_of_lt (dB β h) (Nat.lt_of_le_of_lt le hb), fun β h i hi j hj => Nat.lt_of_le_of_lt (tB β h i hi j hj) (Nat.lt_of_le_of_lt le hb), fun β h j hj => Nat.lt_of_le_of_lt ?_ hb, hN⟩
  have a : (P.det β * c j).natAbs ≤ bd P.m K * C := by rw [Int.natAbs_mul]; exact Nat.mul_le_mul (dB β h) (hC j)
  have b : (sumN P.m fun i => c (β i) * P.Tb β i j).natAbs ≤ P.m * (C * bd P.m K) := sumN_bound fun i hi => by rw [Int.natAbs_mul]; exact Nat.mul_le_mul (hC _) (tB β h i hi j hj)
  have e : bd P.m K * (C * (P.m + 1)) = bd P.m K * C + P.m * (C * bd P.m K) := by
    rw [Nat.mul_comm C (P.m + 1), Nat.succ_mul, Nat.mul_add, Nat.add_comm]
    congr 1
    rw [Nat.mul_left_comm (bd P.m K) P.m C, Nat.mul_comm (bd P.m K) C]
  unfold Pb.cost
  rw [e]; omega
theorem cM_le (P : Pb) (j : Nat) : (cM P j).natAbs ≤ 1 := by unfold cM; split; decide; split <;> decide
theorem szW {W : List (List Int)} {cn K : Nat} (hK : ∀ r ∈ W, ∀ x ∈ r, x.natAbs ≤ K) (h1 : 1 ≤ K) (hb : bd (cn + 1) K * (cn + 2) < 2 ^ 300) (hN : W.length + (cn + 1) ≤ 1000) : Sz (pbW W cn) (cM (pbW W cn)) := by
  have hw : ∀ j i, (wv W j i).natAbs ≤ K := fun j i => by
    unfold wv
    rw [List.getD_eq_getElem?_getD, List.getD_eq_getElem?_getD]
    cases q : W[j]? with
    | none => simp
    | some r =>
      simp only [Option.getD_some]
      cases q2 : r[i]? with
      | none => simp
      | some x => exact hK r (List.mem_of_getElem? q) x (List.mem_of_getElem? q2)
  refine sz_of (K := K) (C := 1) (fun j hj i hi => ?_) (cM_le _) (Nat.le_refl 1) ?_ hN
  · have eqb : ∀ i j, (eqA W cn i j).natAbs ≤ K := fun i j => by
      unfold eqA
      split
      · split
        · exact hw _ _
        · exact Nat.zero_le _
      · split
        · rw [Int.natAbs_neg]; exact hw _ _
        · exact h1
    show (if j < W.length then eqA W cn i j else if j < W.length + (cn + 1) then (if i = j - W.length then (1 : Int) else 0) else eqA W cn i W.length).natAbs ≤ K
    split
    · exact eqb _ _
    · split
      · split
        · exact h1
        · exact Nat.zero_le _
      · exact eqb _ _
  · show bd (cn + 1) K * (1 * (cn + 1 + 1)) < _
    rw [Nat.one_mul]; exact hb
end Lw

set_option Elab.async false
set_option linter.all false
set_option maxRecDepth 100000
set_option maxHeartbeats 4000000
/-! PQ0: sizes of products. -/
namespace Lw
open PySem Tx
theorem log_of {x k : Nat} (h : x < 2 ^ k) (hk : 0 < k) : x.log2 < k := by
  by_cases z : x = 0
  · rw [z]; exact hk
  · exact (Nat.log2_lt z).mpr h
theorem mulR_k {a b : Int} {j k : Nat} (ha : a.natAbs < 2 ^ j) (hb : b.natAbs < 2 ^ k) (hj : 0 < j) (hk : 0 < k) (hs : j + k < 1000000) : mulR a b = .ok (a * b) := mulR_w (by have := log_of ha hj; have := log_of hb hk; omega)
theorem mul_lt2 {a b j k : Nat} (ha : a < 2 ^ j) (hb : b < 2 ^ k) : a * b < 2 ^ (j + k) := by
  rw [Nat.pow_add]
  exact Nat.mul_lt_mul'' ha hb
end Lw

set_option Elab.async false
set_option linter.all false
set_option maxRecDepth 100000
set_option maxHeartbeats 4000000
/-! PQg: the law's own common divisor. -/
namespace Lw
open PySem Tx
/-! ### the law's own -/
/-- the turns that the law's gcd wants -/
def gmu (a b : Int) : Nat := Builtin.Int.intBits a + Builtin.Int.intBits b + if a < b then 1 else 0
theorem bits_mono {a b : Nat} (h : a ≤ b) : Builtin.Int.intBits (a : Int) ≤ Builtin.Int.intBits (b : Int) := by
  unfold Builtin.Int.intBits
  by_cases z : a = 0
  · simp [z]
  · have hb : b ≠ 0 := by omega
    have e1 : ((a : Int) == 0) = false := by simp; omega
    have e2 : ((b : Int) == 0) = false := by simp; omega
    rw [e1, e2]
    simp only [Bool.false_eq_true, if_false, Int.natAbs_natCast]
    have := (Nat.le_log2 hb (k := a.log2)).mpr (Nat.le_trans (Nat.log2_self_le z) h)
    omega
theorem bits_half {a r : Nat} (h : 2 * r ≤ a) (ha : 0 < a) : Builtin.Int.intBits (r : Int) + 1 ≤ Builtin.Int.intBits (a : Int) := by
  unfold Builtin.Int.intBits
  have e2 : ((a : Int) == 0) = false := by simp; omega
  rw [e2]
  simp only [Bool.false_eq_true, if_false, Int.natAbs_natCast]
  by_cases z : r = 0
  · simp [z]
  · have e1 : ((r : Int) == 0) = false := by simp; omega
    rw [e1]
    simp only [Bool.false_eq_true, if_false, Int.natAbs_natCast]
    have := (Nat.le_log2 (show a ≠ 0 by omega) (k := r.log2 + 1)).mpr (by
      have := Nat.log2_self_le z
      rw [Nat.pow_succ]; omega)
    omega
theorem gcd_loop : ∀ (xs : List Int) (a b : Nat), gmu a b < xs.length → loopR f_law_gcd_l1 xs ((a : Int), (b : Int)) = .ok (.inr (gcdI a b))
  | [], a, b, h => absurd h (Nat.not_lt_zero _)
  | x :: xs, a, b, h => by
    show (f_law_gcd_l1 x ((a : Int), (b : Int))).bind _ = _
    unfold f_law_gcd_l1
    rw [iteR_okb]
    by_cases z : b = 0
    · subst z
      rw [if_pos (by simp), R.okb]
      show R.ok (Sum.inr (a : Int)) = _
      unfold gcdI
      simp
    · rw [if_neg (by simpa using z), modR_p (by omega), R.okb, R.okb, R.okb, R.okb]
      show loopR f_law_gcd_l1 xs ((b : Int), (a : Int) % (b : Int)) = _
      have e : (a : Int) % (b : Int) = ((a % b : Nat) : Int) := (Int.natCast_emod ..).symm
      have lt := Nat.mod_lt a (Nat.pos_of_ne_zero z)
      rw [e, gcd_loop xs b (a % b) ?_]
      · have : gcdI (b : Int) ((a % b : Nat) : Int) = gcdI (a : Int) (b : Int) := by
          unfold gcdI
          simp only [Int.natAbs_natCast]
          rw [Nat.gcd_comm, ← Nat.gcd_rec, Nat.gcd_comm]
        rw [this]
      · have hl : gmu a b < xs.length + 1 := h
        unfold gmu at hl ⊢
        rw [if_neg (by omega)]
        by_cases q : a < b
        · rw [if_pos (by omega)] at hl
          rw [Nat.mod_eq_of_lt q]; omega
        · rw [if_neg (by omega)] at hl
          have hh : 2 * (a % b) ≤ a := by
            have := Nat.mod_add_div a b
            have : 1 ≤ a / b := Nat.div_pos (by omega) (by omega)
            have : b * 1 ≤ b * (a / b) := Nat.mul_le_mul_left b this
            omega
          have := bits_half hh (by omega)
          omega
theorem bits_lt {x : Int} {k : Nat} (h : x.natAbs < 2 ^ k) : Builtin.Int.intBits x ≤ k := by
  unfold Builtin.Int.intBits
  split
  · omega
  · rename_i z
    have z : x ≠ 0 := by simpa using z
    have := (Nat.log2_lt (show x.natAbs ≠ 0 by omega)).mpr h
    omega
theorem lgcd_ok {a b : Int} {k : Nat} (ha : a.natAbs < 2 ^ k) (hb : b.natAbs < 2 ^ k) (hk : k ≤ 100000) : f_law_gcd a b = .ok (gcdI a b) := by
  have b1 := bits_lt (x := ((a.natAbs : Nat) : Int)) (k := k) (by simpa using ha)
  have b2 := bits_lt (x := ((b.natAbs : Nat) : Int)) (k := k) (by simpa using hb)
  unfold f_law_gcd
  rw [R.okb, R.okb, absI_eq, absI_eq]
  unfold bitsI
  rw [show (((Builtin.Int.intBits ((a.natAbs : Nat) : Int) : Nat) : Int) + ((Builtin.Int.intBits ((b.natAbs : Nat) : Int) : Nat) : Int)) + 4 = ((Builtin.Int.intBits ((a.natAbs : Nat) : Int) + Builtin.Int.intBits ((b.natAbs : Nat) : Int) + 4 : Nat) : Int) by omega, rng1_nat (by omega), R.okb, gcd_loop _ _ _ (by rw [rangeN_len]; unfold gmu; split <;> omega), thenR_r]
  unfold gcdI
  simp
end Lw

set_option Elab.async false
set_option linter.all false
set_option maxRecDepth 100000
set_option maxHeartbeats 4000000
/-! PQr: fractions in lowest terms are rationals. -/
namespace Lw
open PySem Tx Sx
def pq (q : Rat) : Int × Int := (q.num, (q.den : Int))
theorem pq_inj {x y : Rat} (h : pq x = pq y) : x = y := by
  have h1 := congrArg (·.1) h
  have h2 := congrArg (·.2) h
  exact Rat.ext h1 (Int.ofNat.inj h2)
theorem pq_eq {x y : Rat} : pq x = pq y ↔ x = y := ⟨pq_inj, fun h => by rw [h]⟩
theorem pq_int (i : Int) : pq (i : Rat) = (i, 1) := rfl
theorem pq_01 : pq 0 = (0, 1) := rfl
theorem fr_mk {a b : Int} (hb : 0 < b) : fr a b = pq (mkRat a b.toNat) := by
  obtain ⟨k, rfl⟩ := Int.eq_ofNat_of_zero_le (Int.le_of_lt hb)
  have hk : k ≠ 0 := by omega
  rw [show ((k : Nat) : Int).toNat = k from Int.toNat_natCast k, Rat.mkRat_def, dif_neg hk, Rat.normalize_eq]
  rfl
/-- not big -/
def Rb (k : Nat) (q : Rat) : Prop := q.num.natAbs < 2 ^ k ∧ q.den < 2 ^ k
theorem Rb.mono {j k : Nat} {q : Rat} (h : Rb j q) (hk : j ≤ k) : Rb k q := by
  have := Nat.pow_le_pow_right (n := 2) (by decide) hk
  exact ⟨Nat.lt_of_lt_of_le h.1 this, Nat.lt_of_lt_of_le h.2 this⟩
theorem mkRat_rb {a : Int} {b k : Nat} (hb : b ≠ 0) (h1 : a.natAbs < 2 ^ k) (h2 : b < 2 ^ k) : Rb k (mkRat a b) := by
  rw [Rat.mkRat_def, dif_neg hb, Rat.normalize_eq]
  refine ⟨?_, Nat.lt_of_le_of_lt (Nat.div_le_self ..) h2⟩
  show (a / ((Nat.gcd a.natAbs b : Nat) : Int)).natAbs < _
  refine Nat.lt_of_le_of_lt ?_ h1
  exact natAbs_ediv_le (by have := Nat.gcd_pos_of_pos_right a.natAbs (Nat.pos_of_ne_zero hb); omega) (Int.ofNat_dvd_left.mpr (Nat.gcd_dvd_left ..))
theorem Rb.int {i : Int} {k : Nat} (h : i.natAbs < 2 ^ k) (hk : 0 < k) : Rb k (i : Rat) := ⟨h, by
  show 1 < 2 ^ k
  exact Nat.one_lt_pow (by omega) (by decide)⟩
theorem add_rb {x y : Rat} {j k : Nat} (hx : Rb j x) (hy : Rb k y) : (x.num * (y.den : Int) + y.num * (x.den : Int)).natAbs < 2 ^ (j + k + 1) ∧ x.den * y.den < 2 ^ (j + k + 1) ∧ Rb (j + k + 1) (x + y) := by
  have a1 : (x.num * (y.den : Int)).natAbs < 2 ^ (j + k) := by rw [Int.natAbs_mul]; exact mul_lt2 hx.1 hy.2
  have a2 : (y.num * (x.den : Int)).natAbs < 2 ^ (j + k) := by rw [Int.natAbs_mul, Nat.add_comm j k]; exact mul_lt2 hy.1 hx.2
  have a3 : x.den * y.den < 2 ^ (j + k) := mul_lt2 hx.2 hy.2
  have e : (2 : Nat) ^ (j + k + 1) = 2 ^ (j + k) * 2 := Nat.pow_succ ..
  have b1 : (x.num * (y.den : Int) + y.num * (x.den : Int)).natAbs < 2 ^ (j + k + 1) := by omega
  have b2 : x.den * y.den < 2 ^ (j + k + 1) := by omega
  refine ⟨b1, b2, ?_⟩
  rw [Rat.add_def']
  exact mkRat_rb (Nat.mul_ne_zero x.den_nz y.den_nz) b1 b2
theorem mul_int (i : Int) (x : Rat) : (i : Rat) * x = mkRat (i * x.num) x.den := by
  rw [Rat.mul_def', Rat.num_intCast, Rat.den_intCast, Nat.one_mul]
theorem scale_rb {i : Int} {x : Rat} {j k : Nat} (hi : i.natAbs < 2 ^ j) (hx : Rb k x) : Rb (j + k) ((i : Rat) * x) := by
  rw [mul_int]
  exact mkRat_rb x.den_nz (by rw [Int.natAbs_mul]; exact mul_lt2 hi hx.1) (Nat.lt_of_lt_of_le hx.2 (Nat.pow_le_pow_right (by decide) (by omega)))
theorem pq_lt (c : Int) (x : Rat) : (x.num < c * (x.den : Int)) ↔ x < (c : Rat) := by
  rw [Rat.lt_iff, Rat.num_intCast, Rat.den_intCast]
  simp
theorem pq_gt (c : Int) (x : Rat) : (c * (x.den : Int) < x.num) ↔ (c : Rat) < x := by
  rw [Rat.lt_iff, Rat.num_intCast, Rat.den_intCast]
  simp
end Lw

set_option Elab.async false
set_option linter.all false
set_option maxRecDepth 100000
set_option maxHeartbeats 4000000
/-! PQb: the law's own fractions. -/
namespace Lw
open PySem Tx Sx
theorem lfrac_ok {a : Int} {b k : Nat} (hb : b ≠ 0) (h1 : a.natAbs < 2 ^ k) (h2 : b < 2 ^ k) (hk : k ≤ 8000) : f_law_fraction a (b : Int) = .ok (pq (mkRat a b)) := by
  have hp := gcdI_pos (a := a) (b := (b : Int)) (by omega)
  have lg : (gcdI a (b : Int)).natAbs.log2 < 9000 := by
    have := Nat.le_of_dvd (by omega) (Int.natAbs_dvd_natAbs.mpr (gcdI_dvd2 a (b : Int)))
    rw [Int.natAbs_natCast] at this
    have := (Nat.log2_lt (k := k) (by omega)).mpr (show (gcdI a (b : Int)).natAbs < 2 ^ k by omega)
    omega
  unfold f_law_fraction
  rw [lgcd_ok h1 (by rw [Int.natAbs_natCast]; exact h2) (by omega), R.okb, iteR_okb, if_neg (by simp), R.okb, divR_w hp lg, R.okb, divR_w hp lg, R.okb]
  have := fr_mk (a := a) (b := (b : Int)) (by omega)
  rw [Int.toNat_natCast] at this
  rw [← this]; rfl
theorem lplus_ok {x y : Rat} {j k : Nat} (hx : Rb j x) (hy : Rb k y) (hj : 0 < j) (hk : 0 < k) (hs : j + k + 1 ≤ 8000) : f_law_plus (pq x) (pq y) = .ok (pq (x + y)) := by
  obtain ⟨a, b, c⟩ := add_rb hx hy
  have hx2 : ((x.den : Int)).natAbs < 2 ^ j := hx.2
  have hy2 : ((y.den : Int)).natAbs < 2 ^ k := hy.2
  unfold f_law_plus pq
  simp only
  rw [mulR_k hx.1 hy2 hj hk (by omega), R.okb, mulR_k hy.1 hx2 hk hj (by omega), R.okb, R.okb, mulR_k hx2 hy2 hj hk (by omega), R.okb]
  rw [show (x.den : Int) * (y.den : Int) = ((x.den * y.den : Nat) : Int) from (Int.natCast_mul ..).symm, lfrac_ok (Nat.mul_ne_zero x.den_nz y.den_nz) a b hs, ← Rat.add_def']
  rfl
theorem lscaled_ok {i : Int} {x : Rat} {j k : Nat} (hi : i.natAbs < 2 ^ j) (hx : Rb k x) (hj : 0 < j) (hk : 0 < k) (hs : j + k ≤ 8000) : f_law_scaled (pq x) i = .ok (pq ((i : Rat) * x)) := by
  unfold f_law_scaled pq
  simp only
  rw [mulR_k hx.1 hi hk hj (by omega), R.okb, lfrac_ok (k := j + k) x.den_nz (by rw [Int.natAbs_mul, Nat.mul_comm]; exact mul_lt2 hi hx.1) (Nat.lt_of_lt_of_le hx.2 (Nat.pow_le_pow_right (by decide) (by omega))) hs, mul_int, Int.mul_comm]
  rfl
end Lw

set_option Elab.async false
set_option linter.all false
set_option maxRecDepth 100000
set_option maxHeartbeats 4000000
/-! PL0: loops. -/
namespace Lw
open PySem Tx
theorem forR_fold {α β : Type} {f : α → List β → R (List β)} {g : List β → α → List β} {n : Nat} (hm : ∀ l x, l.length ≤ (g l x).length) : ∀ {xs : List α} {l : List β}, (∀ x ∈ xs, ∀ l : List β, (g l x).length ≤ n → f x l = .ok (g l x)) → (xs.foldl g l).length ≤ n → forR f xs l = .ok (xs.foldl g l)
  | [], _, _, _ => rfl
  | x :: xs, l, h, hn => by
    have mono : ∀ (ys : List α) (l : List β), l.length ≤ (ys.foldl g l).length := by
      intro ys
      induction ys with
      | nil => intro l; exact Nat.le_refl _
      | cons y ys ih => intro l; exact Nat.le_trans (hm l y) (ih _)
    show (f x l).bind _ = _
    rw [List.foldl_cons] at hn
    rw [h x List.mem_cons_self l (Nat.le_trans (mono xs _) hn), R.okb]
    exact forR_fold hm (fun y hy => h y (List.mem_cons_of_mem _ hy)) hn
theorem loopR_find {α β : Type} {f : α → Unit → R (Lc Unit β)} {q : α → Bool} {g : α → β} : ∀ {xs : List α}, (∀ x ∈ xs, f x () = if q x = true then .ok (.rt (g x)) else .ok (.nx ())) → loopR f xs () = match xs.find? q with | some e => .ok (.inr (g e)) | none => .ok (.inl ())
  | [], _ => rfl
  | x :: xs, h => by
    have e := h x List.mem_cons_self
    rw [List.find?_cons]
    show (match f x () with | _ => _) = _
    unfold loopR
    rw [e]
    cases qx : q x with
    | true => rfl
    | false => exact loopR_find fun y hy => h y (List.mem_cons_of_mem _ hy)
/-- what passes, one after the other -/
theorem forR_filter {α β : Type} {f : α → List β → R (List β)} {p : α → Bool} {g : α → β} {n : Nat} : ∀ {xs : List α}, (∀ x ∈ xs, ∀ l : List β, l.length ≤ n → f x l = .ok (if p x = true then l ++ [g x] else l)) → ∀ l : List β, l.length + xs.length ≤ n → forR f xs l = .ok (l ++ (xs.filter p).map g)
  | [], _, l, _ => by show R.ok l = _; simp
  | x :: xs, h, l, hn => by
    rw [List.length_cons] at hn
    show (f x l).bind _ = _
    rw [h x List.mem_cons_self l (by omega), R.okb]
    have ih := forR_filter (xs := xs) (n := n) fun y hy => h y (List.mem_cons_of_mem _ hy)
    cases q : p x with
    | true =>
      rw [if_pos rfl]
      refine (ih (l ++ [g x]) (by simp; omega)).trans ?_
      rw [List.filter_cons, q, if_pos rfl, List.map_cons, List.append_assoc]; rfl
    | false =>
      rw [if_neg (by simp)]
      refine (ih l (by omega)).trans ?_
      rw [List.filter_cons, q, if_neg (by simp)]
theorem forR_flat {α β : Type} {f : α → List β → R (List β)} {h : α → List β} {n b : Nat} : ∀ {xs : List α}, (∀ x ∈ xs, (h x).length ≤ b) → (∀ x ∈ xs, ∀ l : List β, l.length ≤ n → f x l = .ok (l ++ h x)) → ∀ l : List β, l.length + xs.length * b ≤ n → forR f xs l = .ok (l ++ xs.flatMap h)
  | [], _, _, l, _ => by show R.ok l = _; simp
  | x :: xs, hb, hf, l, hn => by
    have b1 := hb x List.mem_cons_self
    rw [List.length_cons, Nat.succ_mul] at hn
    show (f x l).bind _ = _
    rw [hf x List.mem_cons_self l (by omega), R.okb]
    refine (forR_flat (n := n) (b := b) (fun y hy => hb y (List.mem_cons_of_mem _ hy)) (fun y hy => hf y (List.mem_cons_of_mem _ hy)) (l ++ h x) (by rw [List.length_append]; omega)).trans ?_
    rw [List.flatMap_cons, List.append_assoc]
end Lw

set_option Elab.async false
set_option linter.all false
set_option maxRecDepth 100000
set_option maxHeartbeats 4000000
/-! PH: leaving out one unknown after the other, plainly. -/
namespace Lw
open PySem Tx Sx
abbrev Row := List Int
def rv (r : Row) (j : Nat) : Int := r.getD j 0
def nz (r : Row) : Bool := r.any fun y => y != 0
def sh (r : Row) : Row := if gcdL r < 2 then r else r.map fun x => x / gcdL r
def ngr (r : Row) : Row := r.map fun v => -v
def ad (l : List Row) (r : Row) : List Row := if (nz r && decide (r ∉ l)) = true then l ++ [r] else l
def sgi (a : Int) : Int := a / (a.natAbs : Int)
def combE (e : Row) (p : Nat) (o : Row) : Row := vec e.length fun k => ((rv e p).natAbs : Int) * rv o k - sgi (rv e p) * rv o p * rv e k
def combP (p : Nat) (u d : Row) : Row := vec u.length fun k => rv u p * rv d k - rv d p * rv u k
def eqAt (W : List Row) (p : Nat) (e : Row) : Bool := decide (rv e p ≠ 0) && decide (ngr e ∈ W)
def woE (W : List Row) (p : Nat) (e : Row) : List Row := W.foldl (fun l o => ad l (sh (combE e p o))) []
def adZ (p : Nat) (l : List Row) (r : Row) : List Row := if (decide (rv r p = 0) && decide (r ∉ l)) = true then l ++ [r] else l
def adP (p : Nat) (u : Row) (l : List Row) (d : Row) : List Row := if (decide (0 < rv u p) && decide (rv d p < 0)) = true then ad l (sh (combP p u d)) else l
def woP (W : List Row) (p : Nat) : List Row := W.foldl (fun l u => W.foldl (adP p u) l) (W.foldl (adZ p) [])
def wo (W : List Row) (p : Nat) : List Row := match W.find? (eqAt W p) with
  | some e => woE W p e
  | none => woP W p
/-! ### rows -/
theorem rv_get {r : Row} {j : Nat} (h : j < r.length) : rv r j = r[j] := by unfold rv; rw [List.getD_eq_getElem?_getD, List.getElem?_eq_getElem h]; rfl
theorem rv_out {r : Row} {j : Nat} (h : r.length ≤ j) : rv r j = 0 := by unfold rv; rw [List.getD_eq_getElem?_getD, List.getElem?_eq_none h]; rfl
theorem rv_vec {m : Nat} {f : Nat → Int} {j : Nat} (h : j < m) : rv (vec m f) j = f j := by unfold rv; rw [List.getD_eq_getElem?_getD, vec_get h]; rfl
theorem row_ext {a b : Row} (hl : a.length = b.length) (h : ∀ j, rv a j = rv b j) : a = b := List.ext_getElem hl fun j h1 h2 => by
  have := h j
  rw [rv_get h1, rv_get h2] at this
  exact this
theorem ngr_len {r : Row} : (ngr r).length = r.length := by unfold ngr; rw [List.length_map]
theorem ngr_val {r : Row} (j : Nat) : rv (ngr r) j = -rv r j := by
  by_cases h : j < r.length
  · rw [rv_get h, rv_get (by rw [ngr_len]; exact h)]
    unfold ngr
    rw [List.getElem_map]
  · rw [rv_out (r := r) (by omega), rv_out (r := ngr r) (by rw [ngr_len]; omega)]; rfl
theorem ngr_ngr {r : Row} : ngr (ngr r) = r := row_ext (by rw [ngr_len, ngr_len]) fun j => by rw [ngr_val, ngr_val, Int.neg_neg]
theorem nz_iff {r : Row} : nz r = true ↔ ∃ j, rv r j ≠ 0 := by
  unfold nz
  rw [List.any_eq_true]
  constructor
  · rintro ⟨x, hx, h⟩
    obtain ⟨j, hj, rfl⟩ := List.getElem_of_mem hx
    exact ⟨j, by rw [rv_get hj]; simpa using h⟩
  · rintro ⟨j, h⟩
    by_cases q : j < r.length
    · exact ⟨r[j], List.getElem_mem q, by rw [rv_get q] at h; simpa using h⟩
    · exact absurd (rv_out (by omega)) h
theorem nz_no {r : Row} (h : ¬ nz r = true) (j : Nat) : rv r j = 0 := Classical.byContradiction fun w => h (nz_iff.mpr ⟨j, w⟩)
theorem gcdL_ngr (r : Row) : gcdL (ngr r) = gcdL r := by
  have : ∀ (l : Row) (a : Int), (ngr l).foldl gcdI a = l.foldl gcdI a := by
    intro l
    induction l with
    | nil => intro _; rfl
    | cons x l ih =>
      intro a
      show (ngr l).foldl gcdI (gcdI a (-x)) = l.foldl gcdI (gcdI a x)
      rw [ih]
      have : gcdI a (-x) = gcdI a x := by unfold gcdI; rw [Int.natAbs_neg]
      rw [this]
  exact this r 0
theorem sh_len {r : Row} : (sh r).length = r.length := by unfold sh; split <;> simp
/-- a shorter row, multiplied, is the row -/
theorem sh_val (r : Row) : ∃ g : Int, 1 ≤ g ∧ ∀ j, rv r j = g * rv (sh r) j := by
  unfold sh
  by_cases q : gcdL r < 2
  · rw [if_pos q]; exact ⟨1, Int.le_refl 1, fun j => by omega⟩
  · rw [if_neg q]
    refine ⟨gcdL r, by omega, fun j => ?_⟩
    by_cases h : j < r.length
    · rw [rv_get h, rv_get (by simpa using h), List.getElem_map]
      exact (Int.mul_ediv_cancel' (gcdL_dvd (List.getElem_mem h))).symm
    · rw [rv_out (by omega), rv_out (by simp; omega)]; omega
theorem sh_ngr (r : Row) : sh (ngr r) = ngr (sh r) := by
  unfold sh
  rw [gcdL_ngr]
  by_cases q : gcdL r < 2
  · rw [if_pos q, if_pos q]
  · rw [if_neg q, if_neg q]
    unfold ngr
    rw [List.map_map, List.map_map]
    refine List.map_congr_left fun x hx => ?_
    show -x / gcdL r = -(x / gcdL r)
    exact Int.neg_ediv_of_dvd (gcdL_dvd hx)
theorem sh_small {r : Row} {B : Nat} (h : ∀ j, (rv r j).natAbs < B) (j : Nat) : (rv (sh r) j).natAbs < B := by
  obtain ⟨g, g1, e⟩ := sh_val r
  have := h j
  rw [e j, Int.natAbs_mul] at this
  have g2 : 1 ≤ g.natAbs := by omega
  exact Nat.lt_of_le_of_lt (Nat.le_mul_of_pos_left _ g2) this
theorem nz_sh {r : Row} : nz (sh r) = nz r := by
  obtain ⟨g, g1, e⟩ := sh_val r
  rw [Bool.eq_iff_iff, nz_iff, nz_iff]
  constructor
  · rintro ⟨j, h⟩
    exact ⟨j, fun z => by rw [e j] at z; rcases Int.mul_eq_zero.mp z with z | z <;> omega⟩
  · rintro ⟨j, h⟩
    exact ⟨j, fun z => by rw [e j, z] at h; omega⟩
theorem nz_ngr {r : Row} : nz (ngr r) = nz r := by
  rw [Bool.eq_iff_iff, nz_iff, nz_iff]
  constructor
  · rintro ⟨j, h⟩; exact ⟨j, fun z => by rw [ngr_val, z] at h; omega⟩
  · rintro ⟨j, h⟩; exact ⟨j, fun z => by rw [ngr_val] at z; omega⟩
section
variable {m p : Nat}
theorem combE_len {e o : Row} : (combE e p o).length = e.length := vec_len
theorem combP_len {u d : Row} : (combP p u d).length = u.length := vec_len
theorem combE_val {e o : Row} (he : e.length = m) (ho : o.length = m) (j : Nat) : rv (combE e p o) j = ((rv e p).natAbs : Int) * rv o j - sgi (rv e p) * rv o p * rv e j := by
  by_cases h : j < m
  · exact rv_vec (by omega)
  · rw [rv_out (r := combE e p o) (by rw [combE_len]; omega), rv_out (r := o) (j := j) (by omega), rv_out (r := e) (j := j) (by omega), Int.mul_zero, Int.mul_zero]; rfl
theorem combP_val {u d : Row} (hu : u.length = m) (hd : d.length = m) (j : Nat) : rv (combP p u d) j = rv u p * rv d j - rv d p * rv u j := by
  by_cases h : j < m
  · exact rv_vec (by omega)
  · rw [rv_out (r := combP p u d) (by rw [combP_len]; omega), rv_out (r := d) (j := j) (by omega), rv_out (r := u) (j := j) (by omega), Int.mul_zero, Int.mul_zero]; rfl
theorem sgi_abs (a : Int) (h : a ≠ 0) : sgi a * a = (a.natAbs : Int) ∧ (sgi a = 1 ∨ sgi a = -1) := by
  unfold sgi
  rcases Int.lt_or_lt_of_ne h with q | q
  · have e : (a.natAbs : Int) = -a := by omega
    rw [e]
    have : a / -a = -1 := by
      have : a = (-a) * (-1) := by omega
      conv => lhs; lhs; rw [this]
      rw [Int.mul_ediv_cancel_left _ (by omega)]
    rw [this]; omega
  · have e : (a.natAbs : Int) = a := by omega
    rw [e, Int.ediv_self (by omega)]; omega
theorem combE_ngr {e o : Row} (he : e.length = m) (ho : o.length = m) : combE e p (ngr o) = ngr (combE e p o) := row_ext (by rw [ngr_len, combE_len, combE_len]) fun j => by
  rw [ngr_val, combE_val he (by rw [ngr_len]; exact ho), combE_val he ho, ngr_val, ngr_val]
  rw [Int.mul_neg, Int.mul_neg, Int.neg_mul]; omega
theorem combE_p {e o : Row} (he : e.length = m) (ho : o.length = m) (h : rv e p ≠ 0) : rv (combE e p o) p = 0 := by
  rw [combE_val he ho]
  have := (sgi_abs _ h).1
  rw [← this]
  rw [Int.mul_right_comm]; omega
theorem combP_p {u d : Row} (hu : u.length = m) (hd : d.length = m) : rv (combP p u d) p = 0 := by
  rw [combP_val hu hd, Int.mul_comm]; omega
/-! ### members -/
theorem mem_ad {l : List Row} {x r : Row} : r ∈ ad l x ↔ r ∈ l ∨ (nz x = true ∧ r = x) := by
  unfold ad
  by_cases h : (nz x && decide (x ∉ l)) = true
  · rw [if_pos h]
    rw [Bool.and_eq_true] at h
    simp [h.1]
  · rw [if_neg h]
    constructor
    · exact .inl
    · rintro (q | ⟨q, rfl⟩)
      · exact q
      · rw [q, Bool.true_and, decide_eq_true_iff] at h
        exact Classical.byContradiction h
theorem mem_adZ {l : List Row} {x r : Row} : r ∈ adZ p l x ↔ r ∈ l ∨ (rv x p = 0 ∧ r = x) := by
  unfold adZ
  by_cases h : (decide (rv x p = 0) && decide (x ∉ l)) = true
  · rw [if_pos h]
    rw [Bool.and_eq_true, decide_eq_true_iff] at h
    simp [h.1]
  · rw [if_neg h]
    constructor
    · exact .inl
    · rintro (q | ⟨q, rfl⟩)
      · exact q
      · rw [decide_eq_true q, Bool.true_and, decide_eq_true_iff] at h
        exact Classical.byContradiction h
theorem mem_adP {l : List Row} {u x r : Row} : r ∈ adP p u l x ↔ r ∈ l ∨ ((0 < rv u p ∧ rv x p < 0) ∧ nz (sh (combP p u x)) = true ∧ r = sh (combP p u x)) := by
  unfold adP
  by_cases h : (decide (0 < rv u p) && decide (rv x p < 0)) = true
  · rw [if_pos h, mem_ad]
    rw [Bool.and_eq_true, decide_eq_true_iff, decide_eq_true_iff] at h
    simp [h]
  · rw [if_neg h]
    rw [Bool.and_eq_true, decide_eq_true_iff, decide_eq_true_iff] at h
    simp [h]
theorem mem_fold {α β : Type} {f : List α → β → List α} {P : β → α → Prop} (h : ∀ l x r, r ∈ f l x ↔ r ∈ l ∨ P x r) : ∀ (W : List β) (l : List α) (r : α), r ∈ W.foldl f l ↔ r ∈ l ∨ ∃ x ∈ W, P x r
  | [], l, r => by simp
  | x :: W, l, r => by
    rw [List.foldl_cons, mem_fold h W, h]
    constructor
    · rintro ((q | q) | ⟨y, hy, q⟩)
      · exact .inl q
      · exact .inr ⟨x, List.mem_cons_self, q⟩
      · exact .inr ⟨y, List.mem_cons_of_mem _ hy, q⟩
    · rintro (q | ⟨y, hy, q⟩)
      · exact .inl (.inl q)
      · rcases List.mem_cons.mp hy with rfl | hy
        · exact .inl (.inr q)
        · exact .inr ⟨y, hy, q⟩
theorem mem_woE {W : List Row} {e r : Row} : r ∈ woE W p e ↔ ∃ o ∈ W, nz (sh (combE e p o)) = true ∧ r = sh (combE e p o) := by
  unfold woE
  rw [mem_fold (P := fun o r => nz (sh (combE e p o)) = true ∧ r = sh (combE e p o)) fun l x r => mem_ad]
  simp
theorem mem_woP {W : List Row} {r : Row} : r ∈ woP W p ↔ (r ∈ W ∧ rv r p = 0) ∨ ∃ u ∈ W, ∃ d ∈ W, (0 < rv u p ∧ rv d p < 0) ∧ nz (sh (combP p u d)) = true ∧ r = sh (combP p u d) := by
  unfold woP
  rw [mem_fold (P := fun u r => ∃ d ∈ W, (0 < rv u p ∧ rv d p < 0) ∧ nz (sh (combP p u d)) = true ∧ r = sh (combP p u d)) fun l u r => mem_fold (f := adP p u) (P := fun d r => (0 < rv u p ∧ rv d p < 0) ∧ nz (sh (combP p u d)) = true ∧ r = sh (combP p u d)) (fun l x r => mem_adP) W l r,
    mem_fold (P := fun x r => rv x p = 0 ∧ r = x) fun l x r => mem_adZ]
  constructor
  · rintro ((q | ⟨x, hx, q, rfl⟩) | q)
    · cases q
    · exact .inl ⟨hx, q⟩
    · exact .inr q
  · rintro (⟨q, z⟩ | q)
    · exact .inl (.inr ⟨r, q, z, rfl⟩)
    · exact .inr q
end
theorem wo_cases (W : List Row) (p : Nat) : (∃ e ∈ W, rv e p ≠ 0 ∧ ngr e ∈ W ∧ W.find? (eqAt W p) = some e ∧ wo W p = woE W p e) ∨ ((∀ e ∈ W, rv e p ≠ 0 → ngr e ∉ W) ∧ W.find? (eqAt W p) = none ∧ wo W p = woP W p) := by
  unfold wo
  cases h : W.find? (eqAt W p) with
  | some e =>
    have a := List.mem_of_find?_eq_some h
    have b := List.find?_some h
    unfold eqAt at b
    rw [Bool.and_eq_true, decide_eq_true_iff, decide_eq_true_iff] at b
    exact .inl ⟨e, a, b.1, b.2, rfl, rfl⟩
  | none =>
    refine .inr ⟨fun e he h0 hn => ?_, rfl, rfl⟩
    have := List.find?_eq_none.mp h e he
    unfold eqAt at this
    rw [decide_eq_true h0, decide_eq_true hn] at this
    exact this rfl
/-! ### values -/
def V (m : Nat) (U : Nat → Rat) (r : Row) : Rat := Wq m U (rv r)
def Sat (m : Nat) (U : Nat → Rat) (W : List Row) : Prop := ∀ r ∈ W, 0 ≤ V m U r
def upU (U : Nat → Rat) (p : Nat) (t : Rat) : Nat → Rat := fun j => if j = p then t else U j
section
variable {m p : Nat} {U : Nat → Rat} {W : List Row}
theorem V_lin {a b : Int} {r x y : Row} (h : ∀ j, rv r j = a * rv x j + b * rv y j) : V m U r = (a : Rat) * V m U x + (b : Rat) * V m U y := by
  unfold V
  rw [Wq_ext (g := fun j => a * rv x j + b * rv y j) fun j _ => h j, Wq_add, Wq_mul, Wq_mul]
theorem V_sh (r : Row) : ∃ g : Rat, 0 < g ∧ V m U r = g * V m U (sh r) := by
  obtain ⟨g, g1, e⟩ := sh_val r
  refine ⟨(g : Rat), by exact_mod_cast (by omega : (0 : Int) < g), ?_⟩
  unfold V
  rw [Wq_ext (g := fun j => g * rv (sh r) j) fun j _ => e j, Wq_mul]
theorem V_z {r : Row} (h : ∀ j, rv r j = 0) : V m U r = 0 := by
  unfold V
  rw [Wq_ext (g := fun _ => 0) fun j _ => h j, Wq_zero]
theorem V_ngr (r : Row) : V m U (ngr r) = -V m U r := by
  unfold V
  rw [Wq_ext (g := fun j => -rv r j) fun j _ => ngr_val j, Wq_neg]
theorem V_up (hp : p < m) (t : Rat) (r : Row) : V m (upU U p t) r = V m U r + (rv r p : Rat) * (t - U p) := by
  have e : V m (upU U p t) r = sumQ m fun j => ((rv r j : Int) : Rat) * U j + (if j = p then (rv r p : Rat) * (t - U p) else 0) := sumQ_ext fun j _ => by
    unfold upU
    by_cases q : j = p
    · subst q
      rw [if_pos rfl, if_pos rfl]; grind
    · rw [if_neg q, if_neg q]; grind
  rw [e, sumQ_add, sumQ_one (f := fun j => if j = p then (rv r p : Rat) * (t - U p) else 0) hp fun k _ hk => if_neg hk, if_pos rfl]
  rfl
theorem V_up0 (hp : p < m) (t : Rat) {r : Row} (h : rv r p = 0) : V m (upU U p t) r = V m U r := by
  rw [V_up hp, h]
  have : ((0 : Int) : Rat) = 0 := rfl
  rw [this]; grind
theorem V_combE {e o : Row} (he : e.length = m) (ho : o.length = m) : V m U (combE e p o) = (((rv e p).natAbs : Int) : Rat) * V m U o + ((-(sgi (rv e p) * rv o p) : Int) : Rat) * V m U e :=
  V_lin fun j => by rw [combE_val he ho, Int.neg_mul]; omega
theorem V_combP {u d : Row} (hu : u.length = m) (hd : d.length = m) : V m U (combP p u d) = ((rv u p : Int) : Rat) * V m U d + ((-rv d p : Int) : Rat) * V m U u :=
  V_lin fun j => by rw [combP_val hu hd, Int.neg_mul]; omega
theorem pos_of_mul {g x : Rat} (hg : 0 < g) (h : 0 ≤ g * x) : 0 ≤ x := by
  refine Rat.le_of_mul_le_mul_left (c := g) ?_ hg
  rw [Rat.mul_zero]; exact h
/-- who satisfies the rows satisfies what they become -/
theorem wo_sat (hl : ∀ r ∈ W, r.length = m) (h : Sat m U W) : Sat m U (wo W p) := by
  intro r hr
  rcases wo_cases W p with ⟨e, he, h0, hn, _, q⟩ | ⟨_, _, q⟩
  · rw [q, mem_woE] at hr
    obtain ⟨o, ho, _, rfl⟩ := hr
    obtain ⟨g, g0, eg⟩ := V_sh (m := m) (U := U) (combE e p o)
    refine pos_of_mul g0 ?_
    rw [← eg, V_combE (hl e he) (hl o ho)]
    have a := h e he
    have b := h _ hn
    rw [V_ngr] at b
    have z : V m U e = 0 := by grind
    rw [z, Rat.mul_zero, Rat.add_zero]
    refine Rat.mul_nonneg ?_ (h o ho)
    have : (0 : Int) ≤ ((rv e p).natAbs : Int) := by omega
    exact_mod_cast this
  · rw [q, mem_woP] at hr
    rcases hr with ⟨a, _⟩ | ⟨u, hu, d, hd, ⟨u0, d0⟩, _, rfl⟩
    · exact h r a
    · obtain ⟨g, g0, eg⟩ := V_sh (m := m) (U := U) (combP p u d)
      refine pos_of_mul g0 ?_
      rw [← eg, V_combP (hl u hu) (hl d hd)]
      have x1 : (0 : Rat) ≤ (rv u p : Rat) := by exact_mod_cast (by omega : 0 ≤ rv u p)
      have x2 : (0 : Rat) ≤ ((-rv d p : Int) : Rat) := by exact_mod_cast (by omega : 0 ≤ -rv d p)
      have y1 := Rat.mul_nonneg x1 (h d hd)
      have y2 := Rat.mul_nonneg x2 (h u hu)
      grind
theorem between : ∀ (L H : List Rat), (∀ l ∈ L, ∀ x ∈ H, l ≤ x) → ∃ t, (∀ l ∈ L, l ≤ t) ∧ ∀ x ∈ H, t ≤ x := by
  have top : ∀ (L : List Rat), L ≠ [] → ∃ t ∈ L, ∀ l ∈ L, l ≤ t := by
    intro L
    induction L with
    | nil => intro h; exact absurd rfl h
    | cons a L ih =>
      intro _
      by_cases q : L = []
      · subst q
        exact ⟨a, List.mem_cons_self, fun l hl => by rw [List.mem_singleton.mp hl]; exact Rat.le_refl⟩
      · obtain ⟨t, ht, h⟩ := ih q
        rcases Rat.le_total (a := a) (b := t) with z | z
        · exact ⟨t, List.mem_cons_of_mem _ ht, fun l hl => by
            rcases List.mem_cons.mp hl with rfl | hl
            · exact z
            · exact h l hl⟩
        · exact ⟨a, List.mem_cons_self, fun l hl => by
            rcases List.mem_cons.mp hl with rfl | hl
            · exact Rat.le_refl
            · exact Rat.le_trans (h l hl) z⟩
  have low : ∀ (L : List Rat), ∃ t, ∀ l ∈ L, t ≤ l := by
    intro L
    induction L with
    | nil => exact ⟨0, by simp⟩
    | cons a L ih =>
      obtain ⟨t, h⟩ := ih
      rcases Rat.le_total (a := a) (b := t) with z | z
      · exact ⟨a, fun l hl => by
          rcases List.mem_cons.mp hl with rfl | hl
          · exact Rat.le_refl
          · exact Rat.le_trans z (h l hl)⟩
      · exact ⟨t, fun l hl => by
          rcases List.mem_cons.mp hl with rfl | hl
          · exact z
          · exact h l hl⟩
  intro L H h
  by_cases q : L = []
  · obtain ⟨t, ht⟩ := low H
    exact ⟨t, by rw [q]; simp, ht⟩
  · obtain ⟨t, ht, h2⟩ := top L q
    exact ⟨t, h2, fun x hx => h t ht x hx⟩
theorem mul_div_self {a c : Rat} (h : c ≠ 0) : c * (a / c) = a := by
  rw [Rat.mul_comm]; exact Rat.div_mul_cancel h
/-- .. and back -/
theorem wo_back (hl : ∀ r ∈ W, r.length = m) (hp : p < m) (h : Sat m U (wo W p)) : ∃ t, Sat m (upU U p t) W := by
  rcases wo_cases W p with ⟨e, he, h0, hn, _, q⟩ | ⟨_, _, q⟩
  · have ne : ((rv e p : Int) : Rat) ≠ 0 := fun z => h0 (by exact_mod_cast z)
    refine ⟨U p - V m U e / (rv e p : Rat), fun o ho => ?_⟩
    have z : V m (upU U p (U p - V m U e / (rv e p : Rat))) e = 0 := by
      rw [V_up hp]
      have := mul_div_self (a := V m U e) ne
      grind
    generalize U p - V m U e / (rv e p : Rat) = t at z ⊢
    have a := V_combE (U := upU U p t) (p := p) (hl e he) (hl o ho)
    rw [z, Rat.mul_zero, Rat.add_zero, V_up0 hp t (combE_p (hl e he) (hl o ho) h0)] at a
    have pos : (0 : Rat) < (((rv e p).natAbs : Int) : Rat) := by exact_mod_cast (by omega : (0 : Int) < ((rv e p).natAbs : Int))
    refine pos_of_mul pos ?_
    rw [← a]
    by_cases w : nz (sh (combE e p o)) = true
    · obtain ⟨g, g0, eg⟩ := V_sh (m := m) (U := U) (combE e p o)
      rw [eg]
      exact Rat.mul_nonneg (Rat.le_of_lt g0) (h _ (by rw [q, mem_woE]; exact ⟨o, ho, w, rfl⟩))
    · rw [V_z fun j => nz_no (by rw [nz_sh] at w; exact w) j]; exact Rat.le_refl
  · obtain ⟨t, t1, t2⟩ := between ((W.filter fun u => decide (0 < rv u p)).map fun u => U p - V m U u / (rv u p : Rat)) ((W.filter fun d => decide (rv d p < 0)).map fun d => U p - V m U d / (rv d p : Rat)) (by
      intro l hl' x hx
      obtain ⟨u, hu, rfl⟩ := List.mem_map.mp hl'
      obtain ⟨d, hd, rfl⟩ := List.mem_map.mp hx
      obtain ⟨u1, u2⟩ := List.mem_filter.mp hu
      obtain ⟨d1, d2⟩ := List.mem_filter.mp hd
      have u2 := of_decide_eq_true u2
      have d2 := of_decide_eq_true d2
      have uq : (0 : Rat) < (rv u p : Rat) := by exact_mod_cast u2
      have dq : (0 : Rat) < ((-rv d p : Int) : Rat) := by exact_mod_cast (by omega : 0 < -rv d p)
      rw [Rat.intCast_neg] at dq
      have c := V_combP (U := U) (p := p) (hl u u1) (hl d d1)
      rw [Rat.intCast_neg] at c
      have nn : 0 ≤ V m U (combP p u d) := by
        by_cases w : nz (sh (combP p u d)) = true
        · obtain ⟨g, g0, eg⟩ := V_sh (m := m) (U := U) (combP p u d)
          rw [eg]
          exact Rat.mul_nonneg (Rat.le_of_lt g0) (h _ (by rw [q, mem_woP]; exact .inr ⟨u, u1, d, d1, ⟨u2, d2⟩, w, rfl⟩))
        · rw [V_z fun j => nz_no (by rw [nz_sh] at w; exact w) j]; exact Rat.le_refl
      rw [c] at nn
      have e1 := mul_div_self (a := V m U u) (c := (rv u p : Rat)) (by grind)
      have e2 := mul_div_self (a := V m U d) (c := (rv d p : Rat)) (by grind)
      generalize V m U u / (rv u p : Rat) = x1 at e1 ⊢
      generalize V m U d / (rv d p : Rat) = x2 at e2 ⊢
      rw [← e1, ← e2] at nn
      have f : 0 ≤ ((rv u p : Rat) * (-(rv d p : Rat))) * (x1 - x2) := by grind
      have := pos_of_mul (Rat.mul_pos uq dq) f
      grind)
    refine ⟨t, fun r hr => ?_⟩
    rw [V_up hp]
    rcases Int.lt_trichotomy (rv r p) 0 with w | w | w
    · have b := t2 _ (List.mem_map.mpr ⟨r, List.mem_filter.mpr ⟨hr, decide_eq_true w⟩, rfl⟩)
      have dq : (0 : Rat) < ((-rv r p : Int) : Rat) := by exact_mod_cast (by omega : 0 < -rv r p)
      rw [Rat.intCast_neg] at dq
      have e2 := mul_div_self (a := V m U r) (c := (rv r p : Rat)) (by grind)
      generalize V m U r / (rv r p : Rat) = x2 at e2 b
      rw [← e2]
      have := Rat.mul_nonneg (Rat.le_of_lt dq) (b := (U p - x2) - t) (by grind)
      grind
    · have b := h r (by rw [q, mem_woP]; exact .inl ⟨hr, w⟩)
      rw [w]
      have : ((0 : Int) : Rat) = 0 := rfl
      rw [this]; grind
    · have b := t1 _ (List.mem_map.mpr ⟨r, List.mem_filter.mpr ⟨hr, decide_eq_true w⟩, rfl⟩)
      have uq : (0 : Rat) < (rv r p : Rat) := by exact_mod_cast w
      have e2 := mul_div_self (a := V m U r) (c := (rv r p : Rat)) (by grind)
      generalize V m U r / (rv r p : Rat) = x2 at e2 b
      rw [← e2]
      have := Rat.mul_nonneg (Rat.le_of_lt uq) (b := t - (U p - x2)) (by grind)
      grind
/-- the places that are left out -/
theorem wo_zero (hl : ∀ r ∈ W, r.length = m) : (∀ r ∈ wo W p, rv r p = 0) ∧ (∀ r ∈ wo W p, r.length = m) ∧ ∀ j, (∀ r ∈ W, rv r j = 0) → ∀ r ∈ wo W p, rv r j = 0 := by
  have key : ∀ (x : Row) (j : Nat), rv x j = 0 → rv (sh x) j = 0 := fun x j h => by
    obtain ⟨g, g1, e⟩ := sh_val x
    rw [e j] at h
    rcases Int.mul_eq_zero.mp h with z | z
    · omega
    · exact z
  rcases wo_cases W p with ⟨e, he, h0, hn, _, q⟩ | ⟨_, _, q⟩
  · rw [q]
    refine ⟨fun r hr => ?_, fun r hr => ?_, fun j hj r hr => ?_⟩
    · obtain ⟨o, ho, _, rfl⟩ := mem_woE.mp hr
      exact key _ _ (combE_p (hl e he) (hl o ho) h0)
    · obtain ⟨o, ho, _, rfl⟩ := mem_woE.mp hr
      rw [sh_len, combE_len]; exact hl e he
    · obtain ⟨o, ho, _, rfl⟩ := mem_woE.mp hr
      exact key _ _ (by rw [combE_val (hl e he) (hl o ho), hj o ho, hj e he]; omega)
  · rw [q]
    refine ⟨fun r hr => ?_, fun r hr => ?_, fun j hj r hr => ?_⟩
    · rcases mem_woP.mp hr with ⟨a, b⟩ | ⟨u, hu, d, hd, _, _, rfl⟩
      · exact b
      · exact key _ _ (combP_p (hl u hu) (hl d hd))
    · rcases mem_woP.mp hr with ⟨a, b⟩ | ⟨u, hu, d, hd, _, _, rfl⟩
      · exact hl r a
      · rw [sh_len, combP_len]; exact hl u hu
    · rcases mem_woP.mp hr with ⟨a, b⟩ | ⟨u, hu, d, hd, _, _, rfl⟩
      · exact hj r a
      · exact key _ _ (by rw [combP_val (hl u hu) (hl d hd), hj u hu, hj d hd]; omega)
/-- how large the numbers become -/
theorem wo_small {b : Nat} (hl : ∀ r ∈ W, r.length = m) (h : ∀ r ∈ W, ∀ j, (rv r j).natAbs < 2 ^ b) : ∀ r ∈ wo W p, ∀ j, (rv r j).natAbs < 2 ^ (2 * b + 1) := by
  have two : ∀ x y z w : Int, x.natAbs < 2 ^ b → y.natAbs < 2 ^ b → z.natAbs < 2 ^ b → w.natAbs < 2 ^ b → (x * y - z * w).natAbs < 2 ^ (2 * b + 1) := fun x y z w a c d e => by
    have k1 : (x * y).natAbs < 2 ^ b * 2 ^ b := by rw [Int.natAbs_mul]; exact Nat.mul_lt_mul'' a c
    have k2 : (z * w).natAbs < 2 ^ b * 2 ^ b := by rw [Int.natAbs_mul]; exact Nat.mul_lt_mul'' d e
    rw [show 2 * b + 1 = b + b + 1 by omega, Nat.pow_succ, Nat.pow_add]
    generalize 2 ^ b * 2 ^ b = B at k1 k2 ⊢
    omega
  have mono : ∀ n : Nat, n < 2 ^ b → n < 2 ^ (2 * b + 1) := fun n hn => Nat.lt_of_lt_of_le hn (Nat.pow_le_pow_right (by decide) (by omega))
  rcases wo_cases W p with ⟨e, he, h0, hn, _, q⟩ | ⟨_, _, q⟩
  · rw [q]
    intro r hr
    obtain ⟨o, ho, _, rfl⟩ := mem_woE.mp hr
    refine sh_small fun j => ?_
    rw [combE_val (hl e he) (hl o ho)]
    refine two _ _ _ _ (by rw [Int.natAbs_natCast]; exact h e he p) (h o ho j) ?_ (h e he j)
    have := h o ho p
    rcases (sgi_abs _ h0).2 with z | z
    · rw [z]; omega
    · rw [z]; omega
  · rw [q]
    intro r hr
    rcases mem_woP.mp hr with ⟨a, _⟩ | ⟨u, hu, d, hd, _, _, rfl⟩
    · exact fun j => mono _ (h r a j)
    · refine sh_small fun j => ?_
      rw [combP_val (hl u hu) (hl d hd)]
      exact two _ _ _ _ (h u hu p) (h d hd j) (h d hd p) (h u hu j)
/-! ### how many rows -/
theorem ad_len (l : List Row) (r : Row) : l.length ≤ (ad l r).length ∧ (ad l r).length ≤ l.length + 1 := by
  unfold ad; split <;> simp
theorem adZ_len (l : List Row) (r : Row) : l.length ≤ (adZ p l r).length ∧ (adZ p l r).length ≤ l.length + (if rv r p = 0 then 1 else 0) := by
  unfold adZ
  by_cases q : rv r p = 0
  · rw [if_pos q]; split <;> simp
  · rw [if_neg q, decide_eq_false q]; simp
theorem adP_len (u : Row) (l : List Row) (d : Row) : l.length ≤ (adP p u l d).length ∧ (adP p u l d).length ≤ l.length + (if 0 < rv u p ∧ rv d p < 0 then 1 else 0) := by
  unfold adP
  by_cases q : 0 < rv u p ∧ rv d p < 0
  · rw [if_pos q, decide_eq_true q.1, decide_eq_true q.2]
    exact ad_len _ _
  · rw [if_neg q]
    have : ¬ (decide (0 < rv u p) && decide (rv d p < 0)) = true := by simpa using q
    rw [if_neg this]
    exact ⟨Nat.le_refl _, Nat.le_refl _⟩
theorem fold_len {α β : Type} {f : List α → β → List α} {c : β → Nat} (h : ∀ l x, l.length ≤ (f l x).length ∧ (f l x).length ≤ l.length + c x) : ∀ (W : List β) (l : List α), l.length ≤ (W.foldl f l).length ∧ (W.foldl f l).length ≤ l.length + (W.map c).sum
  | [], l => ⟨Nat.le_refl _, by simp⟩
  | x :: W, l => by
    have a := h l x
    have b := fold_len h W (f l x)
    rw [List.foldl_cons, List.map_cons, List.sum_cons]
    omega
theorem sum_cnt (q : Row → Bool) : ∀ W : List Row, (W.map fun r => if q r = true then 1 else 0).sum = W.countP q
  | [] => rfl
  | r :: W => by
    rw [List.map_cons, List.sum_cons, sum_cnt q W, List.countP_cons]; omega
def gr (n : Nat) : Nat := max n (n * n / 4)
theorem gr_mono {a b : Nat} (h : a ≤ b) : gr a ≤ gr b := by
  unfold gr
  have : a * a / 4 ≤ b * b / 4 := Nat.div_le_div_right (Nat.mul_le_mul h h)
  omega
theorem woE_len (W : List Row) (p : Nat) (e : Row) : (woE W p e).length ≤ W.length := by
  have := (fold_len (f := fun l o => ad l (sh (combE e p o))) (c := fun _ => 1) (fun l x => ad_len _ _) W []).2
  have e2 : (W.map fun _ => 1).sum = W.length := by
    clear this
    induction W with
    | nil => rfl
    | cons a W ih => rw [List.map_cons, List.sum_cons, ih, List.length_cons]; omega
  unfold woE
  rw [e2] at this
  simpa using this
theorem gr_of {z u d n : Nat} (h : z + u + d ≤ n) : z + u * d ≤ gr n := by
  unfold gr
  by_cases q : u = 0 ∨ d = 0
  · have : u * d = 0 := Nat.mul_eq_zero.mpr q
    omega
  · obtain ⟨a, rfl⟩ : ∃ a, u = a + 1 := ⟨u - 1, by omega⟩
    obtain ⟨b, rfl⟩ : ∃ b, d = b + 1 := ⟨d - 1, by omega⟩
    have k : (z + (a + 1) + (b + 1)) * (z + (a + 1) + (b + 1)) ≤ n * n := Nat.mul_le_mul h h
    have sq : 4 * (a * b) ≤ (a + b) * (a + b) := by
      have : (a + b) * (a + b) = a * a + 2 * (a * b) + b * b := by
        rw [Nat.add_mul, Nat.mul_add, Nat.mul_add, Nat.mul_comm b a]; omega
      rw [this]
      rcases Nat.le_total a b with w | w
      · obtain ⟨c, rfl⟩ := Nat.exists_eq_add_of_le w
        have : (a + c) * (a + c) = a * a + 2 * (a * c) + c * c := by
          rw [Nat.add_mul, Nat.mul_add, Nat.mul_add, Nat.mul_comm c a]; omega
        rw [this, Nat.mul_add]; omega
      · obtain ⟨c, rfl⟩ := Nat.exists_eq_add_of_le w
        have : (b + c) * (b + c) = b * b + 2 * (b * c) + c * c := by
          rw [Nat.add_mul, Nat.mul_add, Nat.mul_add, Nat.mul_comm c b]; omega
        rw [this, Nat.add_mul, Nat.mul_comm c b]; omega
    have e1 : (z + (a + 1) + (b + 1)) * (z + (a + 1) + (b + 1)) = z * z + 2 * (z * (a + b)) + (a + b) * (a + b) + 4 * z + 4 * (a + b) + 4 := by
      rw [show z + (a + 1) + (b + 1) = z + (a + b) + 2 by omega]
      generalize a + b = s
      rw [Nat.add_mul, Nat.mul_add, Nat.add_mul, Nat.add_mul, Nat.mul_add, Nat.mul_add, Nat.mul_comm s z]; omega
    have e2 : (a + 1) * (b + 1) = a * b + a + b + 1 := by rw [Nat.add_mul, Nat.mul_add]; omega
    rw [e1] at k
    rw [e2]
    have : z + (a * b + a + b + 1) ≤ n * n / 4 := by
      rw [Nat.le_div_iff_mul_le (by decide)]
      have : 0 ≤ z * z := Nat.zero_le _
      omega
    omega
theorem cnt3 (q1 q2 q3 : Row → Bool) (hd : ∀ r, (q1 r = true → q2 r = false ∧ q3 r = false) ∧ (q2 r = true → q3 r = false)) : ∀ W : List Row, W.countP q1 + W.countP q2 + W.countP q3 ≤ W.length
  | [] => by simp
  | r :: W => by
    have := cnt3 q1 q2 q3 hd W
    have h := hd r
    rw [List.countP_cons, List.countP_cons, List.countP_cons, List.length_cons]
    cases h1 : q1 r <;> cases h2 : q2 r <;> cases h3 : q3 r <;> simp_all <;> omega
theorem woP_len (W : List Row) (p : Nat) : (woP W p).length ≤ gr W.length := by
  have a := (fold_len (f := adZ p) (c := fun r => if rv r p = 0 then 1 else 0) (fun l x => adZ_len l x) W []).2
  have b := (fold_len (f := fun l u => W.foldl (adP p u) l) (c := fun u => if 0 < rv u p then W.countP (fun d => decide (rv d p < 0)) else 0) (fun l u => by
    have k := fold_len (f := adP p u) (c := fun d => if 0 < rv u p ∧ rv d p < 0 then 1 else 0) (fun l x => adP_len u l x) W l
    refine ⟨k.1, ?_⟩
    have e : (W.map fun d => if 0 < rv u p ∧ rv d p < 0 then 1 else 0).sum = if 0 < rv u p then W.countP (fun d => decide (rv d p < 0)) else 0 := by
      by_cases z : 0 < rv u p
      · rw [if_pos z, ← sum_cnt]
        exact congrArg List.sum (List.map_congr_left fun d _ => by simp [z])
      · rw [if_neg z]
        have : ∀ l : List Row, (l.map fun d => if 0 < rv u p ∧ rv d p < 0 then 1 else 0).sum = 0 := by
          intro l
          induction l with
          | nil => rfl
          | cons x l ih => rw [List.map_cons, List.sum_cons, ih, if_neg fun w => z w.1]
        exact this W
    rw [e] at k
    exact k.2) W (W.foldl (adZ p) [])).2
  have e1 : (W.map fun r => if rv r p = 0 then 1 else 0).sum = W.countP fun r => decide (rv r p = 0) := by
    rw [← sum_cnt]
    exact congrArg List.sum (List.map_congr_left fun d _ => by simp)
  have e2 : ∀ (c : Nat) (l : List Row), (l.map fun u => if 0 < rv u p then c else 0).sum = (l.countP fun r => decide (0 < rv r p)) * c := by
    intro c l
    induction l with
    | nil => simp
    | cons x l ih =>
      rw [List.map_cons, List.sum_cons, ih, List.countP_cons]
      by_cases z : 0 < rv x p
      · rw [if_pos z, if_pos (decide_eq_true z), Nat.add_mul]; omega
      · rw [if_neg z, if_neg (by simpa using z)]; simp
  rw [e1] at a
  rw [e2] at b
  have c := cnt3 (fun r => decide (rv r p = 0)) (fun r => decide (0 < rv r p)) (fun r => decide (rv r p < 0)) (fun r => by
    refine ⟨fun h => ?_, fun h => ?_⟩
    · have h := of_decide_eq_true h
      exact ⟨decide_eq_false (by omega), decide_eq_false (by omega)⟩
    · have h := of_decide_eq_true h
      exact decide_eq_false (by omega)) W
  have d := gr_of c
  unfold woP
  simp only [List.length_nil, Nat.zero_add] at a
  omega
theorem wo_len (W : List Row) (p : Nat) : (wo W p).length ≤ gr W.length := by
  rcases wo_cases W p with ⟨e, _, _, _, _, q⟩ | ⟨_, _, q⟩
  · rw [q]
    have := woE_len W p e
    unfold gr; omega
  · rw [q]; exact woP_len W p
/-! ### all of them -/
def stage (W : List Row) (c : Nat) : Nat → List Row
  | 0 => W
  | k + 1 => wo (stage W c k) (c - k)
def st0 (W : List Row) : List Row := (W.filter nz).map sh
def poss (W : List Row) (c : Nat) : Bool := (stage (st0 W) c c).all fun r => decide (0 ≤ rv r 0)
theorem st0_len (hl : ∀ r ∈ W, r.length = m) : ∀ r ∈ st0 W, r.length = m := fun r hr => by
  obtain ⟨x, hx, rfl⟩ := List.mem_map.mp hr
  rw [sh_len]; exact hl x (List.mem_filter.mp hx).1
theorem stage_len {c : Nat} (hl : ∀ r ∈ W, r.length = m) : ∀ k, ∀ r ∈ stage W c k, r.length = m
  | 0 => hl
  | k + 1 => (wo_zero (stage_len hl k)).2.1
theorem stage_zero {c : Nat} (hl : ∀ r ∈ W, r.length = m) : ∀ k, k ≤ c → ∀ j, c - k < j → j ≤ c → ∀ r ∈ stage W c k, rv r j = 0
  | 0, _, j, h1, h2 => by omega
  | k + 1, hk, j, h1, h2 => by
    obtain ⟨a, _, b⟩ := wo_zero (p := c - k) (stage_len (c := c) hl k)
    by_cases q : j = c - k
    · subst q; exact a
    · exact b j (stage_zero hl k (by omega) j (by omega) h2)
theorem stage_sat {c : Nat} (hl : ∀ r ∈ W, r.length = m) (h : Sat m U W) : ∀ k, Sat m U (stage W c k)
  | 0 => h
  | k + 1 => wo_sat (stage_len hl k) (stage_sat hl h k)
theorem stage_back {c : Nat} (hl : ∀ r ∈ W, r.length = m) (hm : c < m) : ∀ k, k ≤ c → ∀ U, U 0 = 1 → Sat m U (stage W c k) → ∃ U, U 0 = 1 ∧ Sat m U W
  | 0, _, U, h0, h => ⟨U, h0, h⟩
  | k + 1, hk, U, h0, h => by
    obtain ⟨t, ht⟩ := wo_back (stage_len hl k) (by omega) h
    exact stage_back hl hm k (by omega) _ (by unfold upU; rw [if_neg (by omega), h0]) ht
theorem sat_st0 : Sat m U (st0 W) ↔ Sat m U W := by
  constructor
  · intro h r hr
    by_cases q : nz r = true
    · obtain ⟨g, g0, e⟩ := V_sh (m := m) (U := U) r
      rw [e]
      exact Rat.mul_nonneg (Rat.le_of_lt g0) (h _ (List.mem_map.mpr ⟨r, List.mem_filter.mpr ⟨hr, q⟩, rfl⟩))
    · rw [V_z (nz_no q)]; exact Rat.le_refl
  · intro h r hr
    obtain ⟨x, hx, rfl⟩ := List.mem_map.mp hr
    obtain ⟨g, g0, e⟩ := V_sh (m := m) (U := U) x
    refine pos_of_mul g0 ?_
    rw [← e]
    exact h x (List.mem_filter.mp hx).1
theorem V_const {c : Nat} {r : Row} (hz : ∀ j, 0 < j → j ≤ c → rv r j = 0) (h0 : U 0 = 1) : V (c + 1) U r = (rv r 0 : Rat) := by
  unfold V Wq
  rw [sumQ_one (r := 0) (by omega) fun k hk h => by
    have : rv r k = 0 := hz k (by omega) (by omega)
    rw [this]
    have : ((0 : Int) : Rat) = 0 := rfl
    rw [this, Rat.zero_mul], h0, Rat.mul_one]
theorem poss_iff {c : Nat} (hl : ∀ r ∈ W, r.length = c + 1) : poss W c = true ↔ ∃ U : Nat → Rat, U 0 = 1 ∧ Sat (c + 1) U W := by
  have l0 := st0_len hl
  have z := stage_zero (c := c) l0 c (Nat.le_refl c)
  unfold poss
  rw [List.all_eq_true]
  constructor
  · intro h
    obtain ⟨U, h0, hU⟩ := stage_back l0 (by omega) c (Nat.le_refl c) (fun j => if j = 0 then 1 else 0) rfl fun r hr => by
      rw [V_const (fun j j0 j1 => z j (by omega) j1 r hr) rfl]
      exact_mod_cast of_decide_eq_true (h r hr)
    exact ⟨U, h0, sat_st0.mp hU⟩
  · rintro ⟨U, h0, h⟩ r hr
    have := stage_sat (c := c) l0 (sat_st0.mpr h) c r hr
    rw [V_const (fun j j0 j1 => z j (by omega) j1 r hr) h0] at this
    exact decide_eq_true (by exact_mod_cast this)
end
end Lw

set_option Elab.async false
set_option linter.all false
set_option maxRecDepth 100000
set_option maxHeartbeats 4000000
/-! PHb: the law's own leaving out of unknowns. -/
namespace Lw
open PySem Tx Sx
theorem gcd_foldk {f : Int → Int → R Int} (hf : ∀ x s, f x s = (f_law_gcd s x).bind fun c => .ok c) {k : Nat} (hk : k ≤ 100000) : ∀ (l : List Int) (a : Int), a.natAbs < 2 ^ k → (∀ x ∈ l, x.natAbs < 2 ^ k) → forR f l a = .ok (l.foldl gcdI a) ∧ (l.foldl gcdI a).natAbs < 2 ^ k
  | [], _, ha, _ => ⟨rfl, ha⟩
  | x :: l, a, ha, hl => by
    have hx := hl x List.mem_cons_self
    have hg : (gcdI a x).natAbs < 2 ^ k := by
      unfold gcdI
      rw [Int.natAbs_natCast]
      by_cases z : x = 0
      · subst z; simp; exact ha
      · exact Nat.lt_of_le_of_lt (Nat.le_of_dvd (by omega) (Nat.gcd_dvd_right ..)) hx
    obtain ⟨e, b⟩ := gcd_foldk hf hk l (gcdI a x) hg fun y hy => hl y (List.mem_cons_of_mem _ hy)
    refine ⟨?_, b⟩
    show (f x a).bind _ = _
    rw [hf, lgcd_ok ha hx hk, R.okb, R.okb]
    exact e
theorem row_small {r : Row} {k : Nat} (h : ∀ j, (rv r j).natAbs < 2 ^ k) : ∀ x ∈ r, x.natAbs < 2 ^ k := fun x hx => by
  obtain ⟨j, hj, rfl⟩ := List.getElem_of_mem hx
  have := h j
  rw [rv_get hj] at this
  exact this
theorem shorter_ok {r : Row} {k : Nat} (h : ∀ j, (rv r j).natAbs < 2 ^ k) (hk : 0 < k ∧ k ≤ 8000) : f_law_shorter r = .ok (sh r) := by
  unfold f_law_shorter
  obtain ⟨e, b⟩ := gcd_foldk (f := f_law_shorter_l1 r) (fun x s => rfl) (k := k) (by omega) r 0 (Nat.two_pow_pos k) (row_small h)
  have e : forR (f_law_shorter_l1 r) r 0 = .ok (gcdL r) := e
  have b : (gcdL r).natAbs < 2 ^ k := b
  rw [R.okb, R.okb, e, R.okb, iteR_okb]
  unfold sh
  by_cases q : gcdL r < 2
  · rw [if_pos (decide_eq_true q), if_pos q]
  · rw [if_neg (by simpa using q), if_neg q, mapR_of (g := fun x => x / gcdL r) fun x hx => divR_w (by omega) (by have := log_of b hk.1; omega), noX_ok]
theorem rv_ix {r : Row} {j : Nat} (h : j < r.length) : ixR r (j : Int) = .ok (rv r j) := by
  rw [rv_get h]; exact ixR_nat (by simp [h])
theorem absI_ab (a : Int) : absI a = (a.natAbs : Int) := absI_eq a
theorem ad_ok {l : List Row} {r : Row} (h : (ad l r).length ≤ 16000000) : (iteR (R.ok ((r.any fun y => y != 0) && (nmemD r l))) ((appR l r).bind fun x => R.ok x) (R.ok l)) = .ok (ad l r) := by
  have e : ((r.any fun y => y != 0) && nmemD r l) = (nz r && decide (r ∉ l)) := by
    unfold nz
    refine congrArg (_ && ·) ?_
    rw [Bool.eq_iff_iff, nmemD_iff, decide_eq_true_iff]
  rw [iteR_okb, e]
  unfold ad at h ⊢
  by_cases q : (nz r && decide (r ∉ l)) = true
  · rw [if_pos q] at h ⊢
    rw [if_pos q, appR_ok (by simp at h; omega), R.okb]
  · rw [if_neg q, if_neg q]
section
variable {W : List Row} {m p k : Nat}
theorem pow2_2 {a b : Int} (ha : a.natAbs < 2 ^ k) (hb : b.natAbs < 2 ^ k) (hk : 0 < k ∧ k ≤ 3900) : mulR a b = .ok (a * b) := mulR_k ha hb hk.1 hk.1 (by omega)
/-- the row of the law's first way -/
theorem combE_ok {e o : Row} (he : e.length = m) (ho : o.length = m) (hm : m ≤ 1000) (hp : p < m) (h0 : rv e p ≠ 0) (h1 : ∀ j, (rv e j).natAbs < 2 ^ k) (h2 : ∀ j, (rv o j).natAbs < 2 ^ k) (hk : 0 < k ∧ k ≤ 3900) :
    (((rng1 (e.length : Int)).bind fun x23 => (noX (mapR (fun v16 : Int => (((ixR o v16).bind fun x17 => (mulR ((rv e p).natAbs : Int) x17)).bind fun x21 => (((ixR o (p : Int)).bind fun x18 => (mulR (sgi (rv e p)) x18)).bind fun x19 => (ixR e v16).bind fun x20 => (mulR x19 x20)).bind fun x22 => R.ok (x21 - x22))) x23))).bind fun x24 => (f_law_shorter x24)) = .ok (sh (combE e p o)) := by
  rw [rng1_nat (by omega), R.okb, rangeN_vec, vec_mapR (q := fun j => ((rv e p).natAbs : Int) * rv o j - sgi (rv e p) * rv o p * rv e j) fun j hj => ?_, noX_ok, R.okb]
  · have hs := wo_small (W := [e, ngr e, o]) (m := m) (p := p) (b := k) (by
      intro r hr
      simp only [List.mem_cons, List.not_mem_nil, or_false] at hr
      rcases hr with rfl | rfl | rfl
      · exact he
      · rw [ngr_len]; exact he
      · exact ho) (by
      intro r hr j
      simp only [List.mem_cons, List.not_mem_nil, or_false] at hr
      rcases hr with rfl | rfl | rfl
      · exact h1 j
      · rw [ngr_val, Int.natAbs_neg]; exact h1 j
      · exact h2 j)
    have two : ∀ x y z w : Int, x.natAbs < 2 ^ k → y.natAbs < 2 ^ k → z.natAbs < 2 ^ k → w.natAbs < 2 ^ k → (x * y - z * w).natAbs < 2 ^ (2 * k + 1) := fun x y z w a c d e => by
      have k1 : (x * y).natAbs < 2 ^ k * 2 ^ k := by rw [Int.natAbs_mul]; exact Nat.mul_lt_mul'' a c
      have k2 : (z * w).natAbs < 2 ^ k * 2 ^ k := by rw [Int.natAbs_mul]; exact Nat.mul_lt_mul'' d e
      rw [show 2 * k + 1 = k + k + 1 by omega, Nat.pow_succ, Nat.pow_add]
      generalize 2 ^ k * 2 ^ k = B at k1 k2 ⊢
      omega
    refine shorter_ok (r := combE e p o) (k := 2 * k + 1) (fun j => ?_) (by omega)
    rw [combE_val he ho]
    refine two _ _ _ _ (by rw [Int.natAbs_natCast]; exact h1 p) (h2 j) ?_ (h1 j)
    have := h2 p
    rcases (sgi_abs _ h0).2 with z | z
    · rw [z]; omega
    · rw [z]; omega
  · have sp : (sgi (rv e p) * rv o p).natAbs < 2 ^ k := by
      have := h2 p
      rcases (sgi_abs _ h0).2 with z | z
      · rw [z]; omega
      · rw [z]; omega
    have ms : mulR (sgi (rv e p)) (rv o p) = .ok (sgi (rv e p) * rv o p) := mulR_l (by rcases (sgi_abs _ h0).2 with z | z <;> omega)
    rw [rv_ix (by omega), R.okb, pow2_2 (by rw [Int.natAbs_natCast]; exact h1 p) (h2 j) hk, R.okb, rv_ix (by omega), R.okb, ms, R.okb, rv_ix (by omega), R.okb, pow2_2 sp (h1 j) hk, R.okb]
theorem combP_ok {u d : Row} (hu : u.length = m) (hd : d.length = m) (hm : m ≤ 1000) (hp : p < m) (h1 : ∀ j, (rv u j).natAbs < 2 ^ k) (h2 : ∀ j, (rv d j).natAbs < 2 ^ k) (hk : 0 < k ∧ k ≤ 3900) :
    ((((rng1 (u.length : Int)).bind fun x46 => (noX (mapR (fun v39 : Int => (((ixR u (p : Int)).bind fun x40 => (ixR d v39).bind fun x41 => (mulR x40 x41)).bind fun x44 => ((ixR d (p : Int)).bind fun x42 => (ixR u v39).bind fun x43 => (mulR x42 x43)).bind fun x45 => R.ok (x44 - x45))) x46))).bind fun x47 => (f_law_shorter x47))) = .ok (sh (combP p u d)) := by
  rw [rng1_nat (by omega), R.okb, rangeN_vec, vec_mapR (q := fun j => rv u p * rv d j - rv d p * rv u j) fun j hj => ?_, noX_ok, R.okb]
  · have two : ∀ x y z w : Int, x.natAbs < 2 ^ k → y.natAbs < 2 ^ k → z.natAbs < 2 ^ k → w.natAbs < 2 ^ k → (x * y - z * w).natAbs < 2 ^ (2 * k + 1) := fun x y z w a c d e => by
      have k1 : (x * y).natAbs < 2 ^ k * 2 ^ k := by rw [Int.natAbs_mul]; exact Nat.mul_lt_mul'' a c
      have k2 : (z * w).natAbs < 2 ^ k * 2 ^ k := by rw [Int.natAbs_mul]; exact Nat.mul_lt_mul'' d e
      rw [show 2 * k + 1 = k + k + 1 by omega, Nat.pow_succ, Nat.pow_add]
      generalize 2 ^ k * 2 ^ k = B at k1 k2 ⊢
      omega
    refine shorter_ok (r := combP p u d) (k := 2 * k + 1) (fun j => ?_) (by omega)
    rw [combP_val hu hd]
    exact two _ _ _ _ (h1 p) (h2 j) (h2 p) (h1 j)
  · rw [rv_ix (by omega), R.okb, rv_ix (by omega), R.okb, pow2_2 (h1 p) (h2 j) hk, R.okb, rv_ix (by omega), R.okb, rv_ix (by omega), R.okb, pow2_2 (h2 p) (h1 j) hk, R.okb]
theorem without_law (hl : ∀ r ∈ W, r.length = m) (hs : ∀ r ∈ W, ∀ j, (rv r j).natAbs < 2 ^ k) (hm : m ≤ 1000) (hp : p < m) (hk : 0 < k ∧ k ≤ 3900) (hW : W.length ≤ 16000000) (hn : (wo W p).length ≤ 16000000) : f_law_without W (p : Int) = .ok (wo W p) := by
  unfold f_law_without
  rw [R.okb, loopR_find (q := eqAt W p) (g := woE W p) fun e he => ?_]
  · have hc := wo_cases W p
    cases q : W.find? (eqAt W p) with
    | some e =>
      rw [q] at hc
      rcases hc with ⟨e', _, _, _, z, w⟩ | ⟨_, z, _⟩
      · cases z
        rw [w]; exact thenR_r _ _
      · cases z
    | none =>
      rw [q] at hc
      rcases hc with ⟨_, _, _, _, z, _⟩ | ⟨_, _, w⟩
      · cases z
      · rw [w] at hn ⊢
        show thenR (R.ok (Sum.inl ())) _ = _
        have pl := fold_len (f := fun l u => W.foldl (adP p u) l) (c := fun u => (W.map fun d => if 0 < rv u p ∧ rv d p < 0 then 1 else 0).sum) (fun l u => fold_len (f := adP p u) (c := fun d => if 0 < rv u p ∧ rv d p < 0 then 1 else 0) (fun l x => adP_len u l x) W l) W (W.foldl (adZ p) [])
        have hz : (W.foldl (adZ p) []).length ≤ 16000000 := Nat.le_trans pl.1 hn
        rw [thenR_l, R.okb, R.okb, forR_fold (g := adZ p) (n := 16000000) (fun l x => (adZ_len l x).1) (fun r hr l hl' => ?_) hz, R.okb, R.okb,
          forR_fold (g := fun l u => W.foldl (adP p u) l) (n := 16000000) (fun l u => (fold_len (f := adP p u) (c := fun d => if 0 < rv u p ∧ rv d p < 0 then 1 else 0) (fun l x => adP_len u l x) W l).1) (fun u hu l hl' => ?_) hn, R.okb]
        · rfl
        · unfold f_law_without_l4
          rw [R.okb, forR_fold (g := adP p u) (n := 16000000) (fun l x => (adP_len u l x).1) (fun d hd l hl' => ?_) hl', R.okb]
          unfold f_law_without_l5
          have ru := hl u hu
          have rd := hl d hd
          rw [rv_ix (by omega), R.okb, rv_ix (by omega), R.okb, andR_ok, iteR_okb]
          unfold adP at hl' ⊢
          by_cases z : (decide (0 < rv u p) && decide (rv d p < 0)) = true
          · rw [if_pos z] at hl' ⊢
            rw [if_pos z]
            have c := combP_ok (p := p) ru rd hm hp (hs u hu) (hs d hd) hk
            rw [rv_ix (r := u) (by omega), rv_ix (r := d) (j := p) (by omega)] at c
            rw [c, R.okb]
            exact ad_ok hl'
          · rw [if_neg z, if_neg z]
        · unfold f_law_without_l3
          have rr := hl r hr
          rw [rv_ix (by omega), R.okb, andR_ok, iteR_okb]
          unfold adZ at hl' ⊢
          have e : (decide (rv r p = 0) && nmemD r l) = (decide (rv r p = 0) && decide (r ∉ l)) := by
            refine congrArg (_ && ·) ?_
            rw [Bool.eq_iff_iff, nmemD_iff, decide_eq_true_iff]
          rw [e]
          by_cases z : (decide (rv r p = 0) && decide (r ∉ l)) = true
          · rw [if_pos z] at hl' ⊢
            rw [if_pos z, appR_ok (by simp at hl'; omega), R.okb]
          · rw [if_neg z, if_neg z]
  · unfold f_law_without_l1
    have re := hl e he
    rw [rv_ix (by omega), R.okb, R.okb, R.okb, andR_ok, iteR_okb]
    have q : (decide (rv e p ≠ 0) && memD (e.map fun v6 : Int => -v6) W) = eqAt W p e := by
      unfold eqAt
      refine congrArg (_ && ·) ?_
      rw [Bool.eq_iff_iff, memD_iff, decide_eq_true_iff]
      rfl
    rw [q]
    by_cases z : eqAt W p e = true
    · rw [if_pos z, if_pos z]
      have z0 : rv e p ≠ 0 := by
        unfold eqAt at z
        rw [Bool.and_eq_true, decide_eq_true_iff] at z
        exact z.1
      have b := log_of (hs e he p) hk.1
      rw [absI_ab, R.okb, divR_w (i := rv e p) (j := ((rv e p).natAbs : Int)) (by omega) (by rw [Int.natAbs_natCast]; omega), R.okb, R.okb, R.okb]
      have len := woE_len W p e
      rw [forR_fold (g := fun l o => ad l (sh (combE e p o))) (n := 16000000) (fun l x => (ad_len _ _).1) (fun o ho l hl' => ?_) (by unfold woE at len; omega), R.okb]
      · rfl
      · unfold f_law_without_l2
        have c := combE_ok (p := p) re (hl o ho) hm hp z0 (hs e he) (hs o ho) hk
        unfold sgi at c
        rw [c, R.okb]
        exact ad_ok hl'
    · rw [if_neg z, if_neg z]
/-- the law's own word -/
theorem possible_ok {c b : Nat} (hl : ∀ r ∈ W, r.length = c + 1) (hc : c ≤ 900) (hs : ∀ r ∈ W, ∀ j, (rv r j).natAbs < 2 ^ b) (hb : 0 < b) (hk : 2 ^ c * (b + 1) ≤ 3900) (hn : ∀ k, k ≤ c → (stage (st0 W) c k).length ≤ 16000000) : f_law_possible W (c : Int) = .ok (poss W c) := by
  have small : ∀ k, k ≤ c → 2 ^ k * (b + 1) ≤ 3900 := fun k hk' => Nat.le_trans (Nat.mul_le_mul_right _ (Nat.pow_le_pow_right (by decide) hk')) hk
  have b39 : b ≤ 3900 := by have := small 0 (Nat.zero_le _); omega
  have sz : ∀ k, k ≤ c → ∀ r ∈ stage (st0 W) c k, ∀ j, (rv r j).natAbs < 2 ^ (2 ^ k * (b + 1) - 1) := by
    intro k
    induction k with
    | zero =>
      intro _ r hr j
      obtain ⟨x, hx, rfl⟩ := List.mem_map.mp hr
      have := sh_small (hs x (List.mem_filter.mp hx).1) j
      rw [show 2 ^ 0 * (b + 1) - 1 = b by omega]
      exact this
    | succ k ih =>
      intro hk' r hr j
      have := wo_small (stage_len (c := c) (st0_len hl) k) (ih (by omega)) r hr j
      have e : 2 ^ (k + 1) * (b + 1) - 1 = 2 * (2 ^ k * (b + 1) - 1) + 1 := by
        have : 1 ≤ 2 ^ k * (b + 1) := Nat.mul_pos (Nat.two_pow_pos k) (by omega)
        rw [Nat.pow_succ, Nat.mul_right_comm]; omega
      rw [e]
      exact this
  unfold f_law_possible
  rw [fmapR_of (p := fun v : List Int => v.any fun y => y != 0) (g := sh) (fun v _ => rfl) (fun v hv _ => shorter_ok (hs v hv) (by omega)), noX_ok, R.okb, rng1_nat (by omega), R.okb]
  show (forR (f_law_possible_l1 (c : Int)) (rangeN c) (st0 W)).bind _ = _
  obtain ⟨s', e1, e2⟩ := forR_inv (f := f_law_possible_l1 (c : Int)) (xs := rangeN c) (s := st0 W) (fun i s => s = stage (st0 W) c i) rfl fun i x s hx hi => by
    subst hi
    have hi := (List.getElem?_eq_some_iff.mp hx).1
    rw [rangeN_len] at hi
    rw [rangeN_get, if_pos hi] at hx
    cases hx
    refine ⟨stage (st0 W) c (i + 1), ?_, rfl⟩
    unfold f_law_possible_l1
    have k1 : 1 ≤ 2 ^ i := Nat.two_pow_pos i
    have k2 : 2 ^ i * (b + 1) ≤ 3900 := small i (by omega)
    have k3 : 2 ≤ 2 ^ i * (b + 1) := by
      have : 1 * 2 ≤ 2 ^ i * (b + 1) := Nat.mul_le_mul k1 (by omega)
      omega
    rw [show (c : Int) - (i : Int) = ((c - i : Nat) : Int) by omega, without_law (stage_len (c := c) (st0_len hl) i) (sz i (by omega)) (by omega) (by omega) ⟨by omega, by omega⟩ (hn i (by omega)) (hn (i + 1) (by omega)), R.okb]
    rfl
  rw [rangeN_len] at e2
  rw [e1, R.okb, e2, mapR_of (g := fun r => decide (0 ≤ rv r 0)) fun r hr => ?_, noX_ok, R.okb]
  · unfold poss
    rw [List.all_map]; rfl
  · have := stage_len (c := c) (st0_len hl) c r hr
    have e := rv_ix (r := r) (j := 0) (by omega)
    have e : ixR r 0 = .ok (rv r 0) := e
    rw [e, R.okb]
end
end Lw

set_option Elab.async false
set_option linter.all false
set_option maxRecDepth 100000
set_option maxHeartbeats 4000000
/-! PE: sums. -/
namespace Lw
open PySem Tx Sx
theorem castN (n : Nat) (f : Nat → Int) : ((sumN n f : Int) : Rat) = sumQ n fun k => (f k : Rat) := by
  induction n with
  | zero => rfl
  | succ n ih =>
    show ((sumN n f + f n : Int) : Rat) = sumQ n _ + (f n : Rat)
    rw [Rat.intCast_add, ih]
theorem mkRat_mul {a : Int} {d : Int} (hd : 0 < d) : mkRat a d.toNat * (d : Rat) = (a : Rat) := by
  obtain ⟨k, rfl⟩ := Int.eq_ofNat_of_zero_le (Int.le_of_lt hd)
  rw [Int.toNat_natCast, Rat.mkRat_eq_div]
  have hk : ((k : Nat) : Rat) ≠ 0 := by
    intro e
    have : (k : Nat) = 0 := by exact_mod_cast e
    omega
  have e : (((k : Nat) : Int) : Rat) = ((k : Nat) : Rat) := rfl
  rw [e, Rat.div_mul_cancel hk]
theorem sumQ_nonneg {f : Nat → Rat} {n : Nat} (h : ∀ k, k < n → 0 ≤ f k) : 0 ≤ sumQ n f := by
  induction n with
  | zero => exact Rat.le_refl
  | succ n ih =>
    show 0 ≤ sumQ n f + f n
    have a := ih fun k hk => h k (by omega)
    have b := h n (by omega)
    grind
theorem sumQ_swap {f : Nat → Nat → Rat} (m : Nat) : ∀ n, sumQ n (fun i => sumQ m (fun j => f i j)) = sumQ m (fun j => sumQ n (fun i => f i j))
  | 0 => (sumQ_zero fun _ _ => rfl).symm
  | n + 1 => by
    show sumQ n _ + sumQ m _ = _
    rw [sumQ_swap m n, ← sumQ_add]; rfl
theorem sumQ_split : ∀ (n : Nat) (f : Nat → Rat), sumQ (n + 1) f = f 0 + sumQ n fun k => f (k + 1) := by
  intro n
  induction n with
  | zero => intro f; show (0 : Rat) + f 0 = f 0 + 0; grind
  | succ n ih =>
    intro f
    show sumQ (n + 1) f + f (n + 1) = f 0 + (sumQ n (fun k => f (k + 1)) + f (n + 1))
    rw [ih f]; grind
end Lw

set_option Elab.async false
set_option linter.all false
set_option maxRecDepth 100000
set_option maxHeartbeats 4000000
/-! PHc: what the solver tells, and what leaving out unknowns tells. -/
namespace Lw
open PySem Tx Sx
section
variable {W : List Row} {cn : Nat}
theorem wv_rv {j : Nat} (hj : j < W.length) (i : Nat) : wv W j i = rv W[j] i := by
  unfold wv rv
  rw [List.getD_eq_getElem?_getD (l := W), List.getElem?_eq_getElem hj]; rfl
/-- the unknowns that are told -/
def UY (p : Nat → Int) (d : Int) (j : Nat) : Rat := if j = 0 then 1 else mkRat (p (j - 1)) d.toNat
theorem yes_satU {p : Nat → Int} {d : Int} (y : YesAns W cn p d) : Sat (cn + 1) (UY p d) W := by
  have dpos := y.pos
  have dq : (0 : Rat) < (d : Rat) := by exact_mod_cast dpos
  obtain ⟨U, hUU⟩ : ∃ U : Nat → Rat, U = UY p d := ⟨_, rfl⟩
  rw [← hUU]
  have hU : ∀ j, U j = if j = 0 then 1 else mkRat (p (j - 1)) d.toNat := fun j => by rw [hUU]; rfl
  have u0 : U 0 = 1 := by rw [hU, if_pos rfl]
  intro r hr
  obtain ⟨j, hj, rfl⟩ := List.getElem_of_mem hr
  have ge := y.ge j hj
  have e : V (cn + 1) U W[j] * (d : Rat) = ((wv W j 0 * d + sumN cn fun k => p k * wv W j (k + 1) : Int) : Rat) := by
    unfold V Wq
    rw [Rat.intCast_add, castN, Rat.intCast_mul, sumQ_split, Rat.add_mul, u0, wv_rv hj]
    have e1 : (sumQ cn fun k => ((rv W[j] (k + 1) : Int) : Rat) * U (k + 1)) * (d : Rat) = sumQ cn fun k => ((p k * wv W j (k + 1) : Int) : Rat) := by
      rw [Rat.mul_comm, ← sumQ_mul]
      refine sumQ_ext fun k hk => ?_
      have := mkRat_mul dpos (a := p k)
      rw [Rat.intCast_mul, wv_rv hj, hU, if_neg (by omega), Nat.add_sub_cancel, ← this]
      grind
    rw [e1]; grind
  have gq : (0 : Rat) ≤ ((wv W j 0 * d + sumN cn fun k => p k * wv W j (k + 1) : Int) : Rat) := by exact_mod_cast ge
  rw [← e, Rat.mul_comm] at gq
  exact pos_of_mul dq gq
theorem yes_sat {p : Nat → Int} {d : Int} (y : YesAns W cn p d) : ∃ U : Nat → Rat, U 0 = 1 ∧ Sat (cn + 1) U W := ⟨UY p d, if_pos rfl, yes_satU y⟩
theorem no_sat {y : Nat → Int} (ny : NoAns W cn y) {U : Nat → Rat} (u0 : U 0 = 1) (h : Sat (cn + 1) U W) : False := by
  have a : 0 ≤ sumQ W.length fun j => ((y j : Int) : Rat) * Wq (cn + 1) U (wv W j) := sumQ_nonneg fun j hj => by
    have w := h _ (List.getElem_mem hj)
    have e : wv W j = rv W[j] := funext (wv_rv hj)
    rw [e]
    exact Rat.mul_nonneg (by exact_mod_cast ny.nn j hj) w
  have e : (sumQ W.length fun j => ((y j : Int) : Rat) * Wq (cn + 1) U (wv W j)) = sumQ (cn + 1) fun i => ((sumN W.length (fun j => y j * wv W j i) : Int) : Rat) * U i := by
    have e1 : (sumQ W.length fun j => ((y j : Int) : Rat) * Wq (cn + 1) U (wv W j)) = sumQ W.length fun j => sumQ (cn + 1) fun i => ((y j : Int) : Rat) * (((wv W j i : Int) : Rat) * U i) := sumQ_ext fun j _ => by
      unfold Wq
      rw [sumQ_mul]
    rw [e1, sumQ_swap]
    refine sumQ_ext fun i _ => ?_
    rw [castN, Rat.mul_comm, ← sumQ_mul]
    refine sumQ_ext fun j _ => ?_
    rw [Rat.intCast_mul]; grind
  rw [e, sumQ_one (r := 0) (by omega) fun i hi hi0 => by
    have := ny.eq (i - 1) (by omega)
    rw [show i - 1 + 1 = i by omega] at this
    rw [this]; grind, u0] at a
  have n := ny.neg
  have : (0 : Rat) ≤ ((sumN W.length (fun j => y j * wv W j 0) : Int) : Rat) := by grind
  have : (0 : Int) ≤ sumN W.length (fun j => y j * wv W j 0) := by exact_mod_cast this
  omega
theorem poss_yes (hl : ∀ r ∈ W, r.length = cn + 1) {p : Nat → Int} {d : Int} (y : YesAns W cn p d) : poss W cn = true := (poss_iff hl).mpr (yes_sat y)
theorem poss_no (hl : ∀ r ∈ W, r.length = cn + 1) {y : Nat → Int} (ny : NoAns W cn y) : poss W cn = false := by
  cases q : poss W cn with
  | false => rfl
  | true =>
    obtain ⟨U, u0, h⟩ := (poss_iff hl).mp q
    exact (no_sat ny u0 h).elim
end
end Lw

set_option Elab.async false
set_option linter.all false
set_option maxRecDepth 100000
set_option maxHeartbeats 4000000
/-! PB0: barriers. -/
namespace Lw
open PySem Tx Sx
/-- the sum of the conditions times the integers, at a place -/
def tot (W : List (List Int)) (xs : List Int) (i : Nat) : Int := sumN W.length fun j => xs.getD j 0 * wv W j i
open Classical in
/-- the definition of a barrier -/
noncomputable def isBar (W : List (List Int)) (m : Nat) (xs : List Int) : Bool := decide (xs.length = W.length ∧ (∀ x ∈ xs, 0 ≤ x) ∧ tot W xs 0 < 0 ∧ ∀ i, 1 ≤ i → i < m → tot W xs i = 0)
open Classical in
theorem isBar_iff {W : List (List Int)} {m : Nat} {xs : List Int} : isBar W m xs = true ↔ (xs.length = W.length ∧ (∀ x ∈ xs, 0 ≤ x) ∧ tot W xs 0 < 0 ∧ ∀ i, 1 ≤ i → i < m → tot W xs i = 0) := by
  unfold isBar
  exact decide_eq_true_iff
theorem isBar_no {W : List (List Int)} {m : Nat} {xs : List Int} (h : ¬ (xs.length = W.length ∧ ∀ x ∈ xs, 0 ≤ x)) : isBar W m xs = false := by
  cases q : isBar W m xs with
  | false => rfl
  | true => have := isBar_iff.mp q; exact absurd ⟨this.1, this.2.1⟩ h
section
variable {W : List (List Int)} {m : Nat}
theorem row_vec (hw : ∀ r ∈ W, r.length = m) {j : Nat} (hj : j < W.length) : W[j] = vec m (wv W j) := by
  have := hw W[j] (List.getElem_mem _)
  rw [← this]
  have e : wv W j = fun i => W[j].getD i 0 := by
    funext i
    unfold wv
    rw [List.getD_eq_getElem?_getD (l := W), List.getElem?_eq_getElem hj]; rfl
  rw [e]
  exact vec_of W[j] 0
theorem wv_small {K : Nat} (hs : ∀ r ∈ W, ∀ x ∈ r, x.natAbs ≤ K) (j i : Nat) : (wv W j i).natAbs ≤ K := by
  unfold wv
  rw [List.getD_eq_getElem?_getD, List.getD_eq_getElem?_getD]
  cases q : W[j]? with
  | none => simp
  | some r =>
    simp only [Option.getD_some]
    cases q2 : r[i]? with
    | none => simp
    | some x => exact hs r (List.mem_of_getElem? q) x (List.mem_of_getElem? q2)
theorem front_eq (xs : List Int) : (decide ((xs.length : Int) ≠ (W.length : Int)) || (xs.map fun v : Int => decide (v < 0)).any id) = true ↔ ¬ (xs.length = W.length ∧ ∀ x ∈ xs, 0 ≤ x) := by
  rw [Bool.or_eq_true, List.any_map, List.any_eq_true]
  simp only [decide_eq_true_eq, Function.comp, id]
  constructor
  · rintro (h | ⟨x, hx, h⟩) ⟨h1, h2⟩
    · omega
    · have := h2 x hx; omega
  · intro h
    by_cases q : xs.length = W.length
    · right
      apply Classical.byContradiction
      intro w
      exact h ⟨q, fun x hx => by
        apply Classical.byContradiction
        intro z
        exact w ⟨x, hx, by omega⟩⟩
    · left; omega
end
section
/-- what is told is a barrier -/
theorem told_bar {W : List (List Int)} {y : Nat → Int} (ny : NoAns W cn y) : isBar W (cn + 1) (vec W.length y) = true := by
  refine isBar_iff.mpr ⟨vec_len, fun x hx => ?_, ?_, fun i h1 h2 => ?_⟩
  · obtain ⟨j, hj, rfl⟩ := vec_mem.mp hx
    exact ny.nn j hj
  · unfold tot
    have e : (sumN W.length fun j => (vec W.length y).getD j 0 * wv W j 0) = sumN W.length fun j => y j * wv W j 0 := sumN_ext fun j hj => by rw [List.getD_eq_getElem?_getD, vec_get hj]; rfl
    rw [e]; exact ny.neg
  · unfold tot
    have e : (sumN W.length fun j => (vec W.length y).getD j 0 * wv W j i) = sumN W.length fun j => y j * wv W j i := sumN_ext fun j hj => by rw [List.getD_eq_getElem?_getD, vec_get hj]; rfl
    rw [e]
    have := ny.eq (i - 1) (by omega)
    rw [show i - 1 + 1 = i by omega] at this
    exact this
end
end Lw

set_option Elab.async false
set_option linter.all false
set_option maxRecDepth 100000
set_option maxHeartbeats 4000000
/-! PBb: the law's own refusal. -/
namespace Lw
open PySem Tx Sx
section
variable {W : List (List Int)} {m : Nat}
theorem sum_vec (n : Nat) (f : Nat → Int) : (vec n f).sum = sumN n f := by
  induction n with
  | zero => rfl
  | succ n ih => rw [vec_snoc, List.sum_append, ih]; show _ + (f n + 0) = _; rw [Int.add_zero]; rfl
theorem refusal_ok (hw : ∀ r ∈ W, r.length = m) (h1 : 1 ≤ m) (hm : m ≤ 1000) (hW : 1 ≤ W.length) (hl : W.length ≤ 1000) (hs : ∀ r ∈ W, ∀ x ∈ r, x.natAbs ≤ 1152921504606846976) (xs : List Int) :
    f_law_is_refusal W xs = .ok (isBar W m xs) := by
  unfold f_law_is_refusal
  rw [iteR_okb]
  by_cases q : xs.length = W.length ∧ ∀ x ∈ xs, 0 ≤ x
  · rw [if_neg (fun w => (front_eq xs).mp w q)]
    have e0 : ixR W (0 : Int) = .ok W[0] := ixR_nat (k := 0) (by simp)
    rw [R.okb, iteR_okb, if_pos (by simp; omega), e0, R.okb, R.okb, hw W[0] (List.getElem_mem _), R.okb, rng1_nat (by omega), R.okb, rng1_nat (by omega), rangeN_vec (m := m), vec_mapR (q := tot W xs) fun i hi => ?_]
    · rw [noX_ok, R.okb, vec_ixi ⟨by omega, by omega⟩, R.okb, andR_ok]
      obtain ⟨p, hp⟩ : ∃ p, m = p + 1 := ⟨m - 1, by omega⟩
      subst hp
      rw [vec_cons, cut1]
      refine congrArg R.ok ?_
      rw [Bool.eq_iff_iff, Bool.and_eq_true, isBar_iff, decide_eq_true_iff, Bool.not_eq_true', List.any_eq_false]
      constructor
      · rintro ⟨a, b⟩
        refine ⟨q.1, q.2, a, fun i h1 h2 => ?_⟩
        have := b (tot W xs i) (vec_mem.mpr ⟨i - 1, by omega, by rw [show i - 1 + 1 = i by omega]⟩)
        simpa using this
      · rintro ⟨_, _, a, b⟩
        refine ⟨a, fun x hx => ?_⟩
        obtain ⟨j, hj, rfl⟩ := vec_mem.mp hx
        have := b (j + 1) (by omega) (by omega)
        simpa using this
    · rw [R.okb, rangeN_vec, vec_mapR (q := fun j => xs.getD j 0 * wv W j i) fun j hj => ?_, noX_ok, R.okb, sum_vec]
      · rfl
      · have := wv_small hs j i
        rw [ixR_D 0 (by omega) (by omega), R.okb, ixR_nat (x := W[j]) (by simp [hj]), R.okb, row_vec hw hj, vec_ix hi, R.okb, mulR_r (by omega)]
        rfl
  · rw [if_pos ((front_eq xs).mpr q)]
    exact congrArg R.ok (isBar_no q).symm
end
end Lw

set_option Elab.async false
set_option linter.all false
set_option maxRecDepth 100000
set_option maxHeartbeats 4000000
/-! PR7: the rows of the law k07. -/
namespace Lw
open PySem Tx En Sx
theorem cut_in {α : Type} {xs : List α} {lo hi : Option Int} {x : α} (h : x ∈ cutL xs lo hi) : x ∈ xs := by
  unfold cutL at h
  exact List.mem_of_mem_drop (List.mem_of_mem_take h)
theorem cutL_le {α : Type} (xs : List α) (lo hi : Option Int) : (cutL xs lo hi).length ≤ xs.length := by
  unfold cutL
  simp only [List.length_take, List.length_drop]
  omega
theorem cut_lim {α : Type} (xs : List α) (k : Nat) : (cutL xs none (some (k : Int))).length ≤ k := by
  by_cases q : k ≤ xs.length
  · rw [cut_to q, List.length_take]; omega
  · have := cutL_le xs none (some (k : Int)); omega
theorem ix_last {α : Type} {xs : List α} {x : α} : ixR (xs ++ [x]) (-(1 : Int)) = .ok x := by
  have e : ixAt (xs ++ [x]).length (-1) = some xs.length := by
    unfold ixAt
    rw [if_neg (by decide), if_pos (by simp; omega)]
    congr 1
    simp
    omega
  unfold ixR
  rw [show (-(1 : Int)) = -1 from rfl, e]
  simp
theorem last_of {α : Type} {xs : List α} (h : 0 < xs.length) : ∃ l x, xs = l ++ [x] := by
  have ne : xs ≠ [] := fun e => by subst e; simp at h
  exact ⟨xs.dropLast, xs.getLast ne, (List.dropLast_concat_getLast ne).symm⟩
def lims (c : Nat) : Nat := [8, 8, 7, 6, 5].getD c 0
/-- rows as the law draws them -/
structure RowsOk (W : List (List Int)) (c : Nat) : Prop where
  l : ∀ r ∈ W, r.length = c + 1
  s : ∀ r ∈ W, ∀ x ∈ r, x.natAbs ≤ 1000000000100
  n : W.length ≤ 8
theorem row_step {c : Nat} (hc : c ≤ 4) {d0 d1 d2 : Int} (h1 : 0 ≤ d1 ∧ d1 < 5) {parts : List Int} (i : Nat) (hi : i < parts.length) (hi8 : i ≤ 8) (W : List (List Int)) (hl : ∀ r ∈ W, r.length = c + 1) (hs : ∀ r ∈ W, ∀ x ∈ r, x.natAbs ≤ 1000000000000 + i) (hn : W.length ≤ i) :
    ∃ r, f_law_rows_l1 (c : Int) [d0, d1, d2] parts (i : Int) W = .ok (W ++ [r]) ∧ r.length = c + 1 ∧ ∀ x ∈ r, x.natAbs ≤ 1000000000000 + (i + 1) := by
  unfold f_law_rows_l1
  have g1 : ixR [d0, d1, d2] 1 = .ok d1 := rfl
  obtain ⟨sz, es, hz⟩ : ∃ sz, ixR [(3 : Int), 4, 7, 2001, 2000000000000] d1 = .ok sz ∧ 3 ≤ sz ∧ sz ≤ 2000000000000 := by
    have : d1 = 0 ∨ d1 = 1 ∨ d1 = 2 ∨ d1 = 3 ∨ d1 = 4 := by omega
    rcases this with rfl | rfl | rfl | rfl | rfl
    · exact ⟨3, rfl, by omega⟩
    · exact ⟨4, rfl, by omega⟩
    · exact ⟨7, rfl, by omega⟩
    · exact ⟨2001, rfl, by omega⟩
    · exact ⟨2000000000000, rfl, by omega⟩
  have m12 : mulR (2 : Int) 1000000000000 = .ok 2000000000000 := by rw [mulR_l (by decide)]; rfl
  rw [pow12, R.okb, m12, R.okb, R.okb, g1, R.okb, es, R.okb, ixR_nat (x := parts[i]) (by simp [hi]), R.okb, show (1 : Int) + (c : Int) = ((1 + c : Nat) : Int) by omega, repR_one (by omega), R.okb, catR_ok (by simp; omega), R.okb]
  obtain ⟨l, el, hlr⟩ := draws_okW parts[i] ([6] ++ List.replicate (1 + c) sz) (by
    intro m hm
    rcases List.mem_append.mp hm with hm | hm
    · rw [List.mem_singleton.mp hm]; decide
    · rw [(List.mem_replicate.mp hm).2]; omega) (by simp; omega)
  rw [el, R.okb]
  match l, hlr with
  | a :: rest, ⟨ha, hr⟩ =>
    have hr : InR rest (List.replicate (1 + c) sz) := hr
    have lr := hr.len
    rw [List.length_replicate] at lr
    have br : ∀ x ∈ rest, 0 ≤ x ∧ x < sz := fun x hx => by
      obtain ⟨j, hj, rfl⟩ := List.getElem_of_mem hx
      obtain ⟨y, e1, e2⟩ := hr.get (i := j) (m := sz) (by rw [List.getElem?_replicate, if_pos (by omega)])
      rw [List.getElem?_eq_getElem hj] at e1
      rw [Option.some.inj e1]; exact e2
    have i0 : ixR (a :: rest) 0 = .ok a := ixR_nat (k := 0) rfl
    rw [cut1, mapR_of (g := fun v => v - sz / 2) (fun v _ => by rw [divR_p (by decide) (by decide), R.okb]), noX_ok, R.okb, i0, R.okb, R.okb, andR_ok, iteR_okb]
    have r28 : (rest.map fun v => v - sz / 2).length = c + 1 ∧ ∀ x ∈ rest.map fun v => v - sz / 2, x.natAbs ≤ 1000000000000 + i := by
      refine ⟨by rw [List.length_map]; omega, fun x hx => ?_⟩
      obtain ⟨v, hv, rfl⟩ := List.mem_map.mp hx
      have := br v hv
      omega
    obtain ⟨s30, e30, h30⟩ : ∃ s30, (if (decide (a = 0) && decide (0 < (W.length : Int))) = true then ((ixR W (-(1 : Int))).bind fun x32 => R.ok (x32.map (fun v31 : Int => (-v31)))).bind fun row33 => R.ok row33 else R.ok (rest.map fun v => v - sz / 2)) = R.ok s30 ∧ s30.length = c + 1 ∧ ∀ x ∈ s30, x.natAbs ≤ 1000000000000 + i := by
      by_cases q : (decide (a = 0) && decide (0 < (W.length : Int))) = true
      · rw [if_pos q]
        rw [Bool.and_eq_true, decide_eq_true_iff, decide_eq_true_iff] at q
        obtain ⟨L, x, rfl⟩ := last_of (xs := W) (by omega)
        rw [ix_last, R.okb, R.okb]
        refine ⟨_, rfl, by rw [List.length_map]; exact hl x (by simp), fun y hy => ?_⟩
        obtain ⟨v, hv, rfl⟩ := List.mem_map.mp hy
        rw [Int.natAbs_neg]; exact hs x (by simp) v hv
      · rw [if_neg q]; exact ⟨_, rfl, r28⟩
    rw [e30, R.okb, andR_ok, iteR_okb]
    obtain ⟨s35, e35, h35⟩ : ∃ s35, (if (decide (a = 1) && decide (0 < (W.length : Int))) = true then ((((((ixR W (-(1 : Int))).bind fun x38 => (ixR x38 (0 : Int))).bind fun x39 => R.ok (x39 + (1 : Int))).bind fun x40 => R.ok ([x40] : List Int)).bind fun x42 => ((ixR W (-(1 : Int))).bind fun x41 => R.ok (cutL x41 (some (1 : Int)) none)).bind fun x43 => (catR x42 x43)).bind fun row44 => R.ok row44) else R.ok s30) = R.ok s35 ∧ s35.length = c + 1 ∧ ∀ x ∈ s35, x.natAbs ≤ 1000000000000 + (i + 1) := by
      by_cases q : (decide (a = 1) && decide (0 < (W.length : Int))) = true
      · rw [if_pos q]
        rw [Bool.and_eq_true, decide_eq_true_iff, decide_eq_true_iff] at q
        obtain ⟨L, x, rfl⟩ := last_of (xs := W) (by omega)
        have hx := hl x (by simp)
        have hsx := hs x (by simp)
        match x, hx, hsx with
        | x0 :: xr, hx, hsx =>
          have j0 : ixR (x0 :: xr) 0 = .ok x0 := ixR_nat (k := 0) rfl
          rw [List.length_cons] at hx
          rw [ix_last, R.okb, j0, R.okb, R.okb, R.okb, R.okb, cut1, R.okb, catR_ok (by simp; omega), R.okb]
          refine ⟨_, rfl, by simp; omega, fun y hy => ?_⟩
          rcases List.mem_append.mp hy with hy | hy
          · rw [List.mem_singleton.mp hy]
            have := hsx x0 List.mem_cons_self
            omega
          · have := hsx y (List.mem_cons_of_mem _ hy)
            omega
      · rw [if_neg q]
        exact ⟨_, rfl, h30.1, fun x hx => by have := h30.2 x hx; omega⟩
    rw [e35, R.okb, appR_ok (by omega), R.okb]
    exact ⟨s35, rfl, h35⟩
theorem rows_ok7 (cell more : Int) {c : Nat} (hc : c ≤ 4) : ∃ W, f_law_rows cell more (c : Int) = .ok W ∧ RowsOk W c := by
  unfold f_law_rows
  obtain ⟨dr, ed, hd⟩ := draws_okW cell [9, 5, 1000000000] (by simp) (by simp)
  have e9 : repR [(1000000000 : Int)] 9 = .ok (List.replicate 9 1000000000) := repR_one (k := 9) (by decide)
  obtain ⟨ps, ep, hp⟩ := draws_okW more (List.replicate 9 1000000000) (by intro x hx; rw [(List.mem_replicate.mp hx).2]; decide) (by simp)
  have lp := hp.len
  rw [List.length_replicate] at lp
  match dr, hd with
  | [d0, d1, d2], ⟨h0, h1, h2, _⟩ =>
    have g0 : ixR [d0, d1, d2] 0 = .ok d0 := rfl
    obtain ⟨m, rfl⟩ := Int.eq_ofNat_of_zero_le h0.1
    rw [pow9, R.okb, R.okb, ed, R.okb, R.okb, R.okb, R.okb, e9, R.okb, ep, R.okb, g0, R.okb, rng1_nat (by omega), R.okb]
    obtain ⟨W, e1, e2⟩ := forR_inv (f := f_law_rows_l1 (c : Int) [(m : Int), d1, d2] ps) (xs := rangeN m) (s := []) (fun i W => W.length ≤ i ∧ (∀ r ∈ W, r.length = c + 1) ∧ ∀ r ∈ W, ∀ x ∈ r, x.natAbs ≤ 1000000000000 + i) ⟨by simp, by simp, by simp⟩ fun i x W hx ⟨l1, l2, l3⟩ => by
      have hi := (List.getElem?_eq_some_iff.mp hx).1
      rw [rangeN_len] at hi
      rw [rangeN_get, if_pos hi] at hx
      cases hx
      obtain ⟨r, er, r1, r2⟩ := row_step (d0 := (m : Int)) (d2 := d2) hc h1 (parts := ps) i (by omega) (by omega) W l2 l3 l1
      refine ⟨_, er, by simp; omega, fun y hy => ?_, fun y hy x hx => ?_⟩
      · rcases List.mem_append.mp hy with hy | hy
        · exact l2 y hy
        · rw [List.mem_singleton.mp hy]; exact r1
      · rcases List.mem_append.mp hy with hy | hy
        · have := l3 y hy x hx; omega
        · rw [List.mem_singleton.mp hy] at hx; exact r2 x hx
    rw [rangeN_len] at e2
    have lm : ixR [(8 : Int), 8, 7, 6, 5] (c : Int) = .ok ((lims c : Nat) : Int) ∧ lims c ≤ 8 := by
      have : c = 0 ∨ c = 1 ∨ c = 2 ∨ c = 3 ∨ c = 4 := by omega
      rcases this with rfl | rfl | rfl | rfl | rfl <;> exact ⟨rfl, by decide⟩
    rw [e1, R.okb, lm.1, R.okb]
    refine ⟨_, rfl, fun r hr => e2.2.1 r (cut_in hr), fun r hr x hx => ?_, Nat.le_trans (cut_lim W (lims c)) lm.2⟩
    have := e2.2.2 r (cut_in hr) x hx
    omega
end Lw

set_option Elab.async false
set_option linter.all false
set_option maxRecDepth 100000
set_option maxHeartbeats 4000000
/-! PX: the law k07 holds, plainly. -/
namespace Lw
open PySem Tx En Sx
/-! ### refusals -/
theorem solve_ref {W : List (List Int)} {c : Int} (h : c < 0 ∨ ∃ r ∈ W, (r.length : Int) ≠ c + 1) : f_solve W c = .ex 3 := by
  unfold f_solve
  have e : (decide (c < 0) || (W.map fun v3 : List Int => decide ((v3.length : Int) ≠ c + 1)).any id) = true := by
    rw [Bool.or_eq_true, decide_eq_true_iff, List.any_map, List.any_eq_true]
    rcases h with h | ⟨r, hr, h⟩
    · exact .inl h
    · exact .inr ⟨r, hr, decide_eq_true h⟩
  rw [iteR_okb, if_pos e]
theorem rows_repr {W : List (List Int)} (hn : W.length ≤ 20) (hl : ∀ r ∈ W, r.length ≤ 6) (hs : ∀ r ∈ W, ∀ x ∈ r, x.natAbs ≤ 1000000000100) : reprR (en W) = .ok (en W).shown := by
  refine repr_of W (fun r hr x hx => ?_) ?_ (by decide)
  · exact Nat.lt_of_le_of_lt (hs r hr x hx) (by decide +kernel)
  · have : (W.map Shw.wt).sum ≤ 7 * W.length := sum_le fun r hr => by
      have h1 : (r.map Shw.wt).sum ≤ 1 * r.length := sum_le fun x _ => by show 1 ≤ 1; omega
      have := hl r hr
      show (r.map Shw.wt).sum + 1 ≤ 7
      omega
    show (W.map Shw.wt).sum + 1 ≤ _
    omega
theorem refused_ok {W : List (List Int)} {c : Int} (hn : W.length ≤ 20) (hl : ∀ r ∈ W, r.length ≤ 6) (hs : ∀ r ∈ W, ∀ x ∈ r, x.natAbs ≤ 1000000000100) (h : c < 0 ∨ ∃ r ∈ W, (r.length : Int) ≠ c + 1) : f_law_refused W c = .ok true := by
  unfold f_law_refused
  rw [rows_repr hn hl hs, R.okb, solve_ref h, R.okb, R.okb]
  have : andR (R.ok (true && (true && !false))) (R.ok (decide ((en W).shown = (en W).shown))) = .ok true := by
    rw [decide_eq_true rfl]; rfl
  rw [this]
  exact tryR_ex
/-! ### the sum of a row -/
theorem sum_go {K : Nat} (hK : 0 < K) (g : Nat → Rat) : ∀ (m : Nat), m * (K + 1) + 1 ≤ 7000 → (∀ j, j < m → Rb K (g j)) → f_law_sum (vec m fun j => pq (g j)) = .ok (pq (sumQ m g)) := by
  intro m hm hg
  unfold f_law_sum
  rw [R.okb, R.okb]
  obtain ⟨s', e1, e2⟩ := forR_inv (f := f_law_sum_l1) (xs := vec m fun j => pq (g j)) (s := ((0 : Int), (1 : Int))) (fun i t => t = pq (sumQ i g) ∧ Rb (1 + i * (K + 1)) (sumQ i g)) ⟨rfl, by
    show Rb (1 + 0 * (K + 1)) (0 : Rat)
    exact ⟨Nat.two_pow_pos _, by show 1 < 2 ^ (1 + 0 * (K + 1)); exact Nat.one_lt_pow (by omega) (by decide)⟩⟩ fun i x t hx ⟨ht, hr⟩ => by
      subst ht
      have hi : i < m := by have := (List.getElem?_eq_some_iff.mp hx).1; simpa using this
      rw [vec_get hi] at hx
      have hx := (Option.some.inj hx).symm
      subst hx
      have b : i * (K + 1) + (K + 1) ≤ m * (K + 1) := by
        rw [← Nat.succ_mul]; exact Nat.mul_le_mul_right _ (by omega)
      refine ⟨pq (sumQ (i + 1) g), ?_, rfl, ?_⟩
      · unfold f_law_sum_l1
        rw [lplus_ok hr (hg i hi) (by omega) hK (by omega), R.okb]
        rfl
      · have := (add_rb hr (hg i hi)).2.2
        refine this.mono ?_
        rw [Nat.succ_mul]; omega
  rw [vec_len] at e2
  rw [e1, R.okb, e2.1]
/-- one condition, with the fractions that are told -/
theorem row_sum {W : List (List Int)} {c : Nat} {p : Nat → Int} {d : Int} (y : YesAns W c p d) (hl : ∀ r ∈ W, r.length = c + 1) (hs : ∀ r ∈ W, ∀ x ∈ r, x.natAbs < 2 ^ 41) (hc : c ≤ 12) {r : List Int} (hr : r ∈ W) :
    (((((((ixR r (0 : Int)).bind fun x8 => R.ok (x8, (1 : Int))).bind fun x9 => R.ok ([x9] : List (Int × Int))).bind fun x15 => ((rng1 (c : Int)).bind fun x14 => (noX (mapR (fun v10 : Int => (((R.ok (vec c fun k => fr (p k) d)).bind fun x11 => (ixR x11 v10)).bind fun x12 => (ixR r ((1 : Int) + v10)).bind fun x13 => (f_law_scaled x12 x13))) x14))).bind fun x16 => (catR x15 x16)).bind fun x17 => (f_law_sum x17)).bind fun x18 => R.ok x18.1).bind fun x19 => R.ok (decide (x19 < (0 : Int)))) = .ok false := by
  have dpos := y.pos
  have lr := hl r hr
  have rs : ∀ j, (rv r j).natAbs < 2 ^ 41 := fun j => by
    by_cases q : j < r.length
    · rw [rv_get q]; exact hs r hr _ (List.getElem_mem q)
    · rw [rv_out (by omega)]; decide
  have fb : ∀ j, j < c → fr (p j) d = pq (mkRat (p j) d.toNat) ∧ Rb 301 (mkRat (p j) d.toNat) := fun j hj => ⟨fr_mk dpos, mkRat_rb (by omega) (y.sp j hj) (by have := y.sd; omega)⟩
  have e0 := rv_ix (r := r) (j := 0) (by omega)
  have e0 : ixR r (0 : Int) = .ok (rv r 0) := e0
  rw [e0, R.okb, R.okb, R.okb, rng1_nat (by omega), R.okb, rangeN_vec, vec_mapR (q := fun k => pq ((rv r (k + 1) : Rat) * mkRat (p k) d.toNat)) fun j hj => ?_, noX_ok, R.okb]
  · have ev : [(rv r 0, (1 : Int))] ++ vec c (fun k => pq ((rv r (k + 1) : Rat) * mkRat (p k) d.toNat)) = vec (c + 1) fun j => pq ((rv r j : Rat) * UY p d j) := by
      rw [vec_cons, List.singleton_append]
      have h0 : pq ((rv r 0 : Rat) * UY p d 0) = (rv r 0, (1 : Int)) := by
        have : UY p d 0 = 1 := if_pos rfl
        rw [this, Rat.mul_one]; rfl
      rw [h0]
      refine congrArg (_ :: ·) (vec_ext fun j _ => ?_)
      have : UY p d (j + 1) = mkRat (p j) d.toNat := if_neg (by omega)
      rw [this]
    have bd : (c + 1) * (342 + 1) + 1 ≤ 7000 := by
      have : (c + 1) * 343 ≤ 13 * 343 := Nat.mul_le_mul_right _ (by omega)
      omega
    have sm := sum_go (K := 342) (by decide) (fun j => (rv r j : Rat) * UY p d j) (c + 1) bd (fun j hj => by
      by_cases q : j = 0
      · subst q
        have : UY p d 0 = 1 := if_pos rfl
        rw [this, Rat.mul_one]
        exact (Rb.int (rs 0) (by decide)).mono (by decide)
      · have : UY p d j = mkRat (p (j - 1)) d.toNat := if_neg q
        rw [this]
        exact scale_rb (rs j) (fb (j - 1) (by omega)).2)
    rw [catR_ok (by simp; omega), R.okb, ev, sm, R.okb, R.okb]
    refine congrArg R.ok (decide_eq_false ?_)
    have sat := yes_satU y r hr
    have sat : 0 ≤ sumQ (c + 1) fun j => (rv r j : Rat) * UY p d j := sat
    generalize (sumQ (c + 1) fun j => (rv r j : Rat) * UY p d j) = x at sat
    have := (pq_lt 0 x).mp
    intro w
    have w : x.num < 0 := w
    have z := this (by rw [Int.zero_mul]; exact w)
    have : ((0 : Int) : Rat) = 0 := rfl
    rw [this] at z
    exact (Rat.not_lt.mpr sat) z
  · have e1 := rv_ix (r := r) (j := 1 + j) (by omega)
    rw [show ((1 + j : Nat) : Int) = (1 : Int) + (j : Int) by omega] at e1
    rw [R.okb, vec_ix hj, R.okb, e1, R.okb, (fb j hj).1, lscaled_ok (rs (1 + j)) (fb j hj).2 (by decide) (by decide) (by decide), Nat.add_comm 1 j]
theorem yes_word {c : Nat} {p : Nat → Int} {d : Int} : (SolA.yes (vec c fun k => fr (p k) d)).word = ("yes" : Str) := rfl
theorem sat_all {W : List (List Int)} {c : Nat} {p : Nat → Int} {d : Int} (y : YesAns W c p d) (hl : ∀ r ∈ W, r.length = c + 1) (hs : ∀ r ∈ W, ∀ x ∈ r, x.natAbs < 2 ^ 41) (hc : c ≤ 12) : f_law_satisfied W (c : Int) (.yes (vec c fun k => fr (p k) d)) = .ok true := by
  have y1 : SolA.yes1 (SolA.yes (vec c fun k => fr (p k) d)) = R.ok (vec c fun k => fr (p k) d) := Eq.trans rfl rfl
  unfold f_law_satisfied
  rw [y1, R.okb, R.okb, vec_len, yes_word]
  simp only [ne_eq, not_true_eq_false, decide_false, orR_f, iteR_okb, Bool.false_eq_true, if_false]
  rw [R.okb, loopR_unit fun r hr => ?_, thenR_l]
  unfold f_law_satisfied_l1
  have := row_sum y hl hs hc hr
  rw [y1, this]; rfl
/-! ### what is told is right -/
theorem rows41 {W : List (List Int)} {c : Nat} (h : RowsOk W c) : ∀ r ∈ W, ∀ x ∈ r, x.natAbs < 2 ^ 40 := fun r hr x hx => Nat.lt_of_le_of_lt (h.s r hr x hx) (by decide)
theorem poss7 {W : List (List Int)} {c : Nat} (hc : c ≤ 4) (h : RowsOk W c) : f_law_possible W (c : Int) = .ok (poss W c) := by
  have st : ∀ k, k ≤ 4 → (stage (st0 W) c k).length ≤ [8, 16, 64, 1024, 262144].getD k 0 := by
    have s0 : (stage (st0 W) c 0).length ≤ 8 := by
      show (st0 W).length ≤ 8
      unfold st0
      rw [List.length_map]
      exact Nat.le_trans (List.length_filter_le ..) h.n
    have step : ∀ j, (stage (st0 W) c (j + 1)).length ≤ gr (stage (st0 W) c j).length := fun j => wo_len ..
    have s1 : (stage (st0 W) c 1).length ≤ 16 := Nat.le_trans (step 0) (Nat.le_trans (gr_mono s0) (by decide))
    have s2 : (stage (st0 W) c 2).length ≤ 64 := Nat.le_trans (step 1) (Nat.le_trans (gr_mono s1) (by decide))
    have s3 : (stage (st0 W) c 3).length ≤ 1024 := Nat.le_trans (step 2) (Nat.le_trans (gr_mono s2) (by decide))
    have s4 : (stage (st0 W) c 4).length ≤ 262144 := Nat.le_trans (step 3) (Nat.le_trans (gr_mono s3) (by decide))
    intro k hk
    have : k = 0 ∨ k = 1 ∨ k = 2 ∨ k = 3 ∨ k = 4 := by omega
    rcases this with rfl | rfl | rfl | rfl | rfl
    · exact s0
    · exact s1
    · exact s2
    · exact s3
    · exact s4
  refine possible_ok (b := 40) h.l (by omega) (fun r hr j => ?_) (by decide) (Nat.le_trans (Nat.mul_le_mul_right _ (Nat.pow_le_pow_right (by decide) hc)) (by decide)) fun k hk => ?_
  · by_cases q : j < r.length
    · rw [rv_get q]; exact rows41 h r hr _ (List.getElem_mem q)
    · rw [rv_out (by omega)]; decide
  · refine Nat.le_trans (st k (by omega)) ?_
    have : k = 0 ∨ k = 1 ∨ k = 2 ∨ k = 3 ∨ k = 4 := by omega
    rcases this with rfl | rfl | rfl | rfl | rfl <;> decide
theorem sol7 {W : List (List Int)} {c : Nat} (hc : c ≤ 4) (h : RowsOk W c) : (∃ y, NoAns W c y ∧ f_solve W (c : Int) = .ok (.no (vec W.length y))) ∨ ∃ p d, YesAns W c p d ∧ f_solve W (c : Int) = .ok (.yes (vec c fun k => fr (p k) d)) := by
  have hn := h.n
  refine solve_ok h.l (by omega) (by omega) (szW (K := 1000000000100) h.s (by decide) ?_ (by omega))
  have a : bd (c + 1) 1000000000100 ≤ bd 5 1000000000100 := bd_mono (by decide) (by omega)
  have b : bd (c + 1) 1000000000100 * (c + 2) ≤ bd 5 1000000000100 * 6 := Nat.mul_le_mul a (by omega)
  exact Nat.lt_of_le_of_lt b (by decide +kernel)
theorem right_no {W : List (List Int)} {c : Nat} (hc : c ≤ 4) (h : RowsOk W c) {y : Nat → Int} (ny : NoAns W c y) : f_law_right W (c : Int) (.no (vec W.length y)) = .ok true := by
  have n1 : SolA.no1 (SolA.no (vec W.length y)) = R.ok (vec W.length y) := Eq.trans rfl rfl
  have hw : (SolA.no (vec W.length y)).word = ("no" : Str) := rfl
  have il : isiR "list" (en (SolA1.mk (SolA.no (vec W.length y)))) = .ok true := rfl
  have W1 : 1 ≤ W.length := by
    cases e : W.length with
    | zero =>
      have := ny.neg
      rw [e] at this
      exact absurd this (by show ¬ ((0 : Int) < 0); decide)
    | succ k => omega
  have anyf : ((vec W.length y).map fun v7 : Int => false).any id = false := by
    rw [List.any_map, List.any_eq_false]; simp
  obtain ⟨g1, g2⟩ := gcd_foldk (f := f_law_right_l1 W (.no (vec W.length y))) (fun x s => rfl) (k := 300) (by decide) (vec W.length y) 0 (Nat.two_pow_pos _) (fun x hx => by
    obtain ⟨j, hj, rfl⟩ := vec_mem.mp hx
    exact ny.sm j hj)
  have g1 : forR (f_law_right_l1 W (.no (vec W.length y))) (vec W.length y) 0 = .ok (gcdL (vec W.length y)) := g1
  have rf := refusal_ok (W := W) (m := c + 1) h.l (by omega) (by omega) W1 (by have := h.n; omega) (fun r hr x hx => by have := h.s r hr x hx; omega) (vec W.length y)
  rw [told_bar ny] at rf
  unfold f_law_right
  rw [il, poss7 hc h, poss_no h.l ny, n1, hw]
  simp only [R.okb, Bool.not_true, Bool.not_false, orR_f, ne_eq, not_true_eq_false, decide_false, iteR_okb, Bool.false_eq_true, if_false, if_true, anyf, g1, ny.one, rf, andR_t, decide_true]
theorem right_yes {W : List (List Int)} {c : Nat} (hc : c ≤ 4) (h : RowsOk W c) {p : Nat → Int} {d : Int} (y : YesAns W c p d) : f_law_right W (c : Int) (.yes (vec c fun k => fr (p k) d)) = .ok true := by
  have y1 : SolA.yes1 (SolA.yes (vec c fun k => fr (p k) d)) = R.ok (vec c fun k => fr (p k) d) := Eq.trans rfl rfl
  have il : isiR "list" (en (SolA1.mk (SolA.yes (vec c fun k => fr (p k) d)))) = .ok true := rfl
  have dpos := y.pos
  unfold f_law_right
  rw [il, poss7 hc h, poss_yes h.l y, y1, yes_word]
  simp only [R.okb, Bool.not_true, Bool.not_false, orR_f, ne_eq, not_true_eq_false, decide_false, iteR_okb, Bool.false_eq_true, if_false, if_true, vec_len]
  rw [loopR_unit fun x hx => ?_, thenR_l, loopR_unit fun r hr => ?_, thenR_l]
  · unfold f_law_right_l3
    have := row_sum y h.l (fun r hr x hx => Nat.lt_of_lt_of_le (rows41 h r hr x hx) (by decide)) (by omega) hr
    rw [y1, this]; rfl
  · obtain ⟨j, hj, rfl⟩ := vec_mem.mp hx
    have rq : Rb 301 (mkRat (p j) d.toNat) := mkRat_rb (by omega) (y.sp j hj) (by have := y.sd; omega)
    rw [fr_mk dpos]
    generalize mkRat (p j) d.toNat = q at rq
    unfold f_law_right_l2
    have e3 : (pq q).2 = (q.den : Int) := rfl
    have e4 : (pq q).1 = q.num := rfl
    rw [e3, e4, lfrac_ok q.den_nz rq.1 rq.2 (by decide), Rat.mkRat_self]
    have e5 : decide ((q.den : Int) < 1) = false := decide_eq_false (by have := q.den_pos; omega)
    rw [e5]
    simp only [R.okb, ne_eq, not_true_eq_false, decide_false, Bool.not_true, orR_f, iteR_okb, Bool.false_eq_true, if_false, List.map_cons, List.map_nil, List.any_cons, List.any_nil, id, Bool.or_false]
theorem app_ok {told : SolA} (h : (∃ l, told = .no l ∧ l.length ≤ 100) ∨ ∃ l, told = .yes l ∧ l.length ≤ 100) : ∃ d, ((tplP (en told) (1 : Int)).bind fun q51 => (appR q51.1 (en (7 : Int))).bind fun c52 => R.ok (q51.2 c52)) = .ok d := by
  rcases h with ⟨l, rfl, hl⟩ | ⟨l, rfl, hl⟩
  · have e : tplP (en (SolA.no l)) 1 = .ok (l.map en, fun z => .tuple [.str "no", .list z]) := rfl
    rw [e, R.okb, appR_ok (by rw [List.length_map]; omega), R.okb]
    exact ⟨_, rfl⟩
  · have e : tplP (en (SolA.yes l)) 1 = .ok (l.map en, fun z => .tuple [.str "yes", .list z]) := rfl
    rw [e, R.okb, appR_ok (by rw [List.length_map]; omega), R.okb]
    exact ⟨_, rfl⟩
theorem told7 {W : List (List Int)} {c : Nat} (hc : c ≤ 4) (h : RowsOk W c) : ∃ told d, f_solve W (c : Int) = .ok told ∧ f_law_right W (c : Int) told = .ok true ∧ ((tplP (en told) (1 : Int)).bind fun q51 => (appR q51.1 (en (7 : Int))).bind fun c52 => R.ok (q51.2 c52)) = .ok d := by
  have := h.n
  rcases sol7 hc h with ⟨y, ny, e⟩ | ⟨p, d, y, e⟩
  · obtain ⟨d, ed⟩ := app_ok (.inl ⟨_, rfl, by rw [vec_len]; omega⟩ : (∃ l, SolA.no (vec W.length y) = .no l ∧ l.length ≤ 100) ∨ _)
    exact ⟨_, d, e, right_no hc h ny, ed⟩
  · obtain ⟨d', ed⟩ := app_ok (.inr ⟨_, rfl, by rw [vec_len]; omega⟩ : _ ∨ ∃ l, SolA.yes (vec c fun k => fr (p k) d) = .yes l ∧ l.length ≤ 100)
    exact ⟨_, d', e, right_yes hc h y, ed⟩
theorem l1_ok (script : List Int) (k : Nat) : f_law_l1 script (k : Int) () = .ok (.nx ()) := by
  unfold f_law_l1
  have c2 : f_law_cell script ((k : Int) + 2) = .ok (script.getD (k + 2) 0) := cell_ok script (k + 2)
  have c1 : f_law_cell script ((k : Int) + 1) = .ok (script.getD (k + 1) 0) := cell_ok script (k + 1)
  rw [c2, c1, cell_ok script k, R.okb, R.okb, modR_p (by decide), R.okb, R.okb, R.okb]
  generalize script.getD (k + 2) 0 = cell
  have b1 := Int.emod_nonneg cell (b := 5) (by decide)
  have b2 := Int.emod_lt_of_pos cell (b := 5) (by decide)
  obtain ⟨c, hc⟩ := Int.eq_ofNat_of_zero_le b1
  rw [hc] at b2 ⊢
  have hc4 : c ≤ 4 := by omega
  obtain ⟨W, eW, hW⟩ := rows_ok7 (script.getD k 0) (script.getD (k + 1) 0) hc4
  have wn := hW.n
  have wl := hW.l
  have rp := rows_repr (W := W) (by omega) (fun r hr => by rw [wl r hr]; omega) hW.s
  obtain ⟨told, dd, e1, e2, e3⟩ := told7 hc4 hW
  rw [eW, R.okb, rp, R.okb, e1, R.okb, e2]
  simp only [R.okb, Bool.not_true, orR_f, ne_eq, not_true_eq_false, decide_false, iteR_okb, Bool.false_eq_true, if_false]
  rw [e3, R.okb, e2]
  simp only [R.okb, Bool.not_true, orR_f, ne_eq, not_true_eq_false, decide_false, iteR_okb, Bool.false_eq_true, if_false]
  rw [modR_p (by decide), R.okb, R.okb]
  have f1 := Int.emod_nonneg cell (b := 1000) (by decide)
  obtain ⟨far, hfar, hf1⟩ : ∃ far, far = 1 + cell % 1000 ∧ 1 ≤ far := ⟨_, rfl, by omega⟩
  rw [← hfar, modR_p (by omega), R.okb, repR_one (by omega), R.okb, catR_ok (by simp; omega), R.okb, modR_p (by decide), R.okb, R.okb]
  have g1 := Int.emod_nonneg far (b := 3) (by decide)
  have g2 := Int.emod_lt_of_pos far (b := 3) (by decide)
  obtain ⟨kk, hkk⟩ := Int.eq_ofNat_of_zero_le (show 0 ≤ 1 + far % 3 by omega)
  have la := cutL_le W none (some (far % ((W.length : Int) + 1)))
  have lb := cutL_le W (some (far % ((W.length : Int) + 1))) none
  have ma : ∀ r ∈ cutL W none (some (far % ((W.length : Int) + 1))), r ∈ W := fun r hr => cut_in hr
  have mb : ∀ r ∈ cutL W (some (far % ((W.length : Int) + 1))) none, r ∈ W := fun r hr => cut_in hr
  generalize cutL W none (some (far % ((W.length : Int) + 1))) = A at la ma ⊢
  generalize cutL W (some (far % ((W.length : Int) + 1))) none = B at lb mb ⊢
  have k1 : catR ([1] ++ List.replicate c (0 : Int)) [1] = .ok ([1] ++ List.replicate c 0 ++ [1]) := catR_ok (by simp; omega)
  have kA : ∀ z : List Int, catR A [z] = .ok (A ++ [z]) := fun z => catR_ok (by simp; omega)
  have kB : ∀ z : List Int, catR (A ++ [z]) B = .ok (A ++ [z] ++ B) := fun z => catR_ok (by simp; omega)
  have kr : repR ([([] : List Int)] : List (List Int)) (kk : Int) = .ok (List.replicate kk []) := repR_one (by omega)
  simp only [hkk, kr, k1, kA, kB, R.okb]
  have go : ∀ (W' : List (List Int)) (c' : Int), W'.length ≤ 20 → (∀ r ∈ W', r.length ≤ 6) → (∀ r ∈ W', ∀ x ∈ r, x.natAbs ≤ 1000000000100) → (c' < 0 ∨ ∃ r ∈ W', (r.length : Int) ≠ c' + 1) → f_law_l2 script (W', c') () = .ok (.nx ()) := fun W' c' a b d e => by
    unfold f_law_l2
    rw [refused_ok a b d e]
    rfl
  have w6 : ∀ r ∈ W, r.length ≤ 6 := fun r hr => by rw [wl r hr]; omega
  have ins : ∀ z : List Int, z.length ≤ 6 → (∀ x ∈ z, x.natAbs ≤ 1000000000100) → (z.length : Int) ≠ (c : Int) + 1 → f_law_l2 script (A ++ [z] ++ B, (c : Int)) () = .ok (.nx ()) := fun z a b d => by
    refine go _ _ (by simp; omega) (fun r hr => ?_) (fun r hr => ?_) (.inr ⟨z, by simp, d⟩)
    · simp only [List.mem_append, List.mem_singleton] at hr
      rcases hr with (hr | hr) | hr
      · exact w6 r (ma r hr)
      · rw [hr]; exact a
      · exact w6 r (mb r hr)
    · simp only [List.mem_append, List.mem_singleton] at hr
      rcases hr with (hr | hr) | hr
      · exact hW.s r (ma r hr)
      · rw [hr]; exact b
      · exact hW.s r (mb r hr)
  have gd : ∀ x ∈ ([1] ++ List.replicate c 0 : List Int), x.natAbs ≤ 1000000000100 := fun x hx => by
    rcases List.mem_append.mp hx with hx | hx
    · rw [List.mem_singleton.mp hx]; decide
    · rw [(List.mem_replicate.mp hx).2]; decide
  rw [loopR_unit fun x hx => ?_, thenR_l]
  simp only [List.mem_cons, List.not_mem_nil, or_false] at hx
  rcases hx with rfl | rfl | rfl | rfl | rfl
  · refine go _ _ (by rw [List.length_replicate]; omega) (fun r hr => ?_) (fun r hr x hx => ?_) (.inl (by decide))
    · rw [(List.mem_replicate.mp hr).2]; simp
    · rw [(List.mem_replicate.mp hr).2] at hx; cases hx
  · exact go _ _ (by omega) w6 hW.s (.inl (by omega))
  · refine ins _ (by simp; omega) (fun x hx => ?_) (by simp; omega)
    rcases List.mem_append.mp hx with hx | hx
    · exact gd x hx
    · rw [List.mem_singleton.mp hx]; decide
  · have e : cutL ([1] ++ List.replicate c (0 : Int)) (some 1) none = List.replicate c 0 := cut1 _ _
    rw [e]
    refine ins _ (by rw [List.length_replicate]; omega) (fun x hx => by rw [(List.mem_replicate.mp hx).2]; decide) (by rw [List.length_replicate]; omega)
  · exact ins [] (by simp) (by simp) (by simp; omega)
/-! ### plain bounds -/
def bnd (m : Nat) : List (List Int) := vec m fun k => vec (m + 1) fun j => (if j = 0 then -(k : Int) else 0) + (if j = k + 1 then 1 else 0)
theorem bnd_len {m : Nat} : ∀ r ∈ bnd m, r.length = m + 1 := fun r hr => by
  obtain ⟨k, hk, rfl⟩ := vec_mem.mp hr
  exact vec_len
theorem bnd_small {m : Nat} (hm : m ≤ 12) : ∀ r ∈ bnd m, ∀ x ∈ r, x.natAbs ≤ 13 := fun r hr x hx => by
  obtain ⟨k, hk, rfl⟩ := vec_mem.mp hr
  obtain ⟨j, hj, rfl⟩ := vec_mem.mp hx
  split <;> split <;> omega
theorem bnd_V {m k : Nat} (hk : k < m) (U : Nat → Rat) : V (m + 1) U (vec (m + 1) fun j => (if j = 0 then -(k : Int) else 0) + (if j = k + 1 then 1 else 0)) = ((-(k : Int) : Int) : Rat) * U 0 + U (k + 1) := by
  unfold V
  rw [Wq_ext (g := fun j => (if j = 0 then -(k : Int) else 0) + (if j = k + 1 then 1 else 0)) fun j hj => rv_vec hj, Wq_add, Wq_at (by omega), Wq_at (by omega)]
  have : ((1 : Int) : Rat) = 1 := rfl
  rw [this, Rat.one_mul]
theorem bnd_ok {m : Nat} (hm : m ≤ 100) : (noX (mapR (fun v57 : Int => (((rng1 (m : Int)).bind fun x59 => R.ok (x59.map (fun v58 : Int => (if (decide (v58 = v57)) then (1 : Int) else 0)))).bind fun x60 => (catR ([(-v57)] : List Int) x60))) (rangeN m))) = .ok (bnd m) := by
  rw [rangeN_vec, vec_mapR (q := fun k => vec (m + 1) fun j => (if j = 0 then -(k : Int) else 0) + (if j = k + 1 then 1 else 0)) fun k hk => ?_, noX_ok]
  · rfl
  · rw [rng1_nat (by omega), R.okb, R.okb, catR_ok (by simp; omega), vec_cons, List.singleton_append, rangeN_vec, vec_map]
    refine congrArg R.ok ?_
    have h0 : ((if (0 : Nat) = 0 then -(k : Int) else 0) + (if (0 : Nat) = k + 1 then 1 else 0) : Int) = -(k : Int) := by rw [if_pos rfl, if_neg (by omega)]; omega
    rw [h0]
    refine congrArg (_ :: ·) (vec_ext fun j _ => ?_)
    by_cases q : j = k
    · subst q; simp
    · have h1 : ¬ (j : Int) = (k : Int) := by omega
      simp [q, h1]
theorem sol_sm {W : List (List Int)} {c : Nat} (hc : c ≤ 12) (hl : ∀ r ∈ W, r.length = c + 1) (hs : ∀ r ∈ W, ∀ x ∈ r, x.natAbs ≤ 13) (hn : W.length ≤ 20) : (∃ y, NoAns W c y ∧ f_solve W (c : Int) = .ok (.no (vec W.length y))) ∨ ∃ p d, YesAns W c p d ∧ f_solve W (c : Int) = .ok (.yes (vec c fun k => fr (p k) d)) := by
  refine solve_ok hl (by omega) (by omega) (szW (K := 13) hs (by decide) ?_ (by omega))
  have a : bd (c + 1) 13 ≤ bd 13 13 := bd_mono (by decide) (by omega)
  have b : bd (c + 1) 13 * (c + 2) ≤ bd 13 13 * 14 := Nat.mul_le_mul a (by omega)
  exact Nat.lt_of_le_of_lt b (by decide +kernel)
theorem bnd_yes {m : Nat} (hm : m ≤ 12) : ∃ told, f_solve (bnd m) (m : Int) = .ok told ∧ f_law_satisfied (bnd m) (m : Int) told = .ok true := by
  rcases sol_sm hm bnd_len (bnd_small hm) (by unfold bnd; rw [vec_len]; omega) with ⟨y, ny, e⟩ | ⟨p, d, y, e⟩
  · refine (no_sat ny (U := fun j => if j = 0 then 1 else (((j - 1 : Nat) : Int) : Rat)) rfl fun r hr => ?_).elim
    obtain ⟨k, hk, rfl⟩ := vec_mem.mp hr
    rw [bnd_V hk]
    show 0 ≤ ((-(k : Int) : Int) : Rat) * (if (0 : Nat) = 0 then (1 : Rat) else (((0 - 1 : Nat) : Int) : Rat)) + (if k + 1 = 0 then (1 : Rat) else (((k + 1 - 1 : Nat) : Int) : Rat))
    rw [if_pos rfl, if_neg (by omega), Nat.add_sub_cancel, Rat.intCast_neg]
    grind
  · exact ⟨_, e, sat_all y bnd_len (fun r hr x hx => Nat.lt_of_le_of_lt (bnd_small hm r hr x hx) (by decide)) hm⟩
def bnd2 (m : Nat) : List (List Int) := bnd m ++ [vec (m + 1) fun _ => -1]
theorem bnd_no {m : Nat} (hm : 1 ≤ m ∧ m ≤ 12) : ∃ told, f_solve (bnd2 m) (m : Int) = .ok told ∧ told.word = ("no" : Str) ∧ ((SolA.no1 told).bind fun x81 => f_law_is_refusal (bnd2 m) x81) = .ok true := by
  have hl : ∀ r ∈ bnd2 m, r.length = m + 1 := fun r hr => by
    rcases List.mem_append.mp hr with hr | hr
    · exact bnd_len r hr
    · rw [List.mem_singleton.mp hr]; exact vec_len
  have hs : ∀ r ∈ bnd2 m, ∀ x ∈ r, x.natAbs ≤ 13 := fun r hr x hx => by
    rcases List.mem_append.mp hr with hr | hr
    · exact bnd_small hm.2 r hr x hx
    · rw [List.mem_singleton.mp hr] at hx
      obtain ⟨j, _, rfl⟩ := vec_mem.mp hx
      decide
  have ln : (bnd2 m).length = m + 1 := by unfold bnd2 bnd; rw [List.length_append, vec_len]; rfl
  rcases sol_sm hm.2 hl hs (by omega) with ⟨y, ny, e⟩ | ⟨p, d, y, e⟩
  · have n1 : SolA.no1 (SolA.no (vec (bnd2 m).length y)) = R.ok (vec (bnd2 m).length y) := Eq.trans rfl rfl
    refine ⟨_, e, rfl, ?_⟩
    rw [n1, R.okb, refusal_ok (m := m + 1) hl (by omega) (by omega) (by omega) (by omega) (fun r hr x hx => by have := hs r hr x hx; omega), told_bar ny]
  · exfalso
    have sat := yes_satU y
    have u0 : UY p d 0 = 1 := if_pos rfl
    have nn : ∀ k, k < m → 0 ≤ UY p d (k + 1) := fun k hk => by
      have a := sat _ (List.mem_append_left _ (vec_mem.mpr ⟨k, hk, rfl⟩))
      rw [bnd_V hk, u0, Rat.intCast_neg, Rat.mul_one] at a
      have : (0 : Rat) ≤ ((k : Int) : Rat) := by exact_mod_cast (by omega : (0 : Int) ≤ (k : Int))
      grind
    have b := sat _ (List.mem_append_right _ (List.mem_singleton.mpr rfl))
    unfold V Wq at b
    rw [sumQ_ext (g := fun j => (-1) * UY p d j) fun j hj => by rw [rv_vec hj]; rfl, sumQ_mul, sumQ_split, u0] at b
    have c := sumQ_nonneg nn
    grind
theorem lst_eq (l : SolA) : eqD (en l) (en l) = .ok true → True := fun _ => trivial
theorem zero_solves : ((andR ((f_solve ([] : List (List Int)) (0 : Int)).bind fun x83 => (eqD (en x83) (en (SolA.yes ([] : List (Int × Int)))))) (andR ((f_solve ([([(-(3 : Int))] : List Int)] : List (List Int)) (0 : Int)).bind fun x84 => (eqD (en x84) (en (SolA.no ([(1 : Int)] : List Int))))) ((f_solve ([([(0 : Int)] : List Int)] : List (List Int)) (0 : Int)).bind fun x85 => (eqD (en x85) (en (SolA.yes ([] : List (Int × Int)))))))) : R Bool) = .ok true := by
  have q1 : eqD (en (SolA.yes [])) (en (SolA.yes [])) = .ok true := by
    have o : okD (en (("yes", []) : Str × List Int)) = true := by decide +kernel
    have := eqD_v (x := (("yes", []) : Str × List Int)) (y := ("yes", [])) o o
    rw [decide_eq_true rfl] at this
    exact this
  have q2 : eqD (en (SolA.no [1])) (en (SolA.no [1])) = .ok true := by
    have o : okD (en (("no", [1]) : Str × List Int)) = true := by decide +kernel
    have := eqD_v (x := (("no", [1]) : Str × List Int)) (y := ("no", [1])) o o
    rw [decide_eq_true rfl] at this
    exact this
  have e1 : f_solve [] (0 : Int) = .ok (.yes []) := by
    rcases sol_sm (W := []) (c := 0) (by decide) (by simp) (by simp) (by simp) with ⟨y, ny, e⟩ | ⟨p, d, y, e⟩
    · exact absurd ny.neg (by show ¬ ((0 : Int) < 0); decide)
    · exact e
  have e2 : f_solve [[-3]] (0 : Int) = .ok (.no [1]) := by
    rcases sol_sm (W := [[-3]]) (c := 0) (by decide) (by simp) (by simp) (by simp) with ⟨y, ny, e⟩ | ⟨p, d, y, e⟩
    · have nn := ny.nn 0 (by simp)
      have one := ny.one
      have e1 : vec ([[-3]] : List (List Int)).length y = [y 0] := rfl
      rw [e1] at one e
      have : gcdL [y 0] = ((Nat.gcd 0 (y 0).natAbs : Nat) : Int) := rfl
      rw [this, Nat.gcd_zero_left] at one
      have : y 0 = 1 := by omega
      rw [this] at e
      exact e
    · have := y.ge 0 (by simp)
      have w : wv [[-3]] 0 0 = -3 := rfl
      rw [w] at this
      have z : sumN 0 (fun k => p k * wv [[-3]] 0 (k + 1)) = 0 := rfl
      rw [z] at this
      have := y.pos
      omega
  have e3 : f_solve [[0]] (0 : Int) = .ok (.yes []) := by
    rcases sol_sm (W := [[0]]) (c := 0) (by decide) (by simp) (by simp) (by simp) with ⟨y, ny, e⟩ | ⟨p, d, y, e⟩
    · have := ny.neg
      have w : sumN ([[0]] : List (List Int)).length (fun j => y j * wv [[0]] j 0) = 0 + y 0 * 0 := rfl
      rw [w] at this
      omega
    · exact e
  rw [e1, e2, e3, R.okb, R.okb, q1, q2]
  rfl
theorem plain (ns : List Int) (hl : ns.length ≤ 63) : f_law ns = .ok true := by
  unfold f_law
  have c0 : f_law_cell ns 0 = .ok (ns.getD 0 0) := cell_ok ns 0
  obtain ⟨n3, e3⟩ : ∃ n3, rng3 0 (min2 (ns.length : Int) 24 + 3) 3 = .ok (stepI 0 3 n3) := by
    obtain ⟨k, hk, ek⟩ : ∃ k : Nat, k ≤ 24 ∧ min2 (ns.length : Int) 24 = (k : Int) := ⟨min ns.length 24, by omega, by rw [min2_eq]; omega⟩
    rw [ek]
    have all : ∀ k : Fin 25, ∃ n3, rng3 0 (((k : Nat) : Int) + 3) 3 = .ok (stepI 0 3 n3) := by
      intro k
      refine ⟨(Builtin.Range.rangeSize 0 (((k : Nat) : Int) + 3) 3).toNat, ?_⟩
      unfold rng3
      refine if_pos ?_
      revert k
      decide +kernel
    exact all ⟨k, by omega⟩
  rw [e3, R.okb, loopR_unit fun x hx => ?_, thenR_l]
  · rw [c0, R.okb, R.okb, modR_p (by decide), R.okb, R.okb]
    have b1 := Int.emod_nonneg (ns.getD 0 0) (b := 8) (by decide)
    have b2 := Int.emod_lt_of_pos (ns.getD 0 0) (b := 8) (by decide)
    obtain ⟨m, hm⟩ := Int.eq_ofNat_of_zero_le (show 0 ≤ 5 + ns.getD 0 0 % 8 by omega)
    have hm2 : 1 ≤ m ∧ m ≤ 12 := by omega
    obtain ⟨t1, a1, a2⟩ := bnd_yes hm2.2
    obtain ⟨t2, d1, d2, d3⟩ := bnd_no hm2
    have br : [(-(1 : Int))] ++ List.replicate m (-(1 : Int)) = vec (m + 1) fun _ => -1 := by
      rw [vec_cons, vec_zero, List.singleton_append]
    rw [hm, rng1_nat (by omega), R.okb]
    have bo := bnd_ok (m := m) (by omega)
    rw [rng1_nat (by omega)] at bo
    rw [bo, R.okb, a1, R.okb, a2, R.okb, iteR_okb, if_neg (by simp), repR_one (by omega), R.okb, catR_ok (by simp; omega), R.okb, br, R.okb, catR_ok (by unfold bnd; simp; omega), R.okb]
    have e2 : bnd m ++ [vec (m + 1) fun _ => -1] = bnd2 m := rfl
    rw [e2, d1, R.okb, d2, R.okb, d3]
    simp only [R.okb, ne_eq, not_true_eq_false, decide_false, Bool.not_true, orR_f, iteR_okb, Bool.false_eq_true, if_false]
    exact zero_solves
  · obtain ⟨i, hi, rfl⟩ := List.getElem_of_mem hx
    rw [stepI_len] at hi
    have : (stepI 0 3 n3)[i]'(by rw [stepI_len]; exact hi) = ((3 * i : Nat) : Int) := by
      have := stepI_get (i := 0) (c := 3) hi
      rw [List.getElem?_eq_getElem (by rw [stepI_len]; exact hi)] at this
      have := Option.some.inj this
      rw [this]; omega
    rw [this]
    exact l1_ok ns (3 * i)
end Lw

set_option Elab.async false
set_option linter.all false
set_option maxRecDepth 100000
set_option maxHeartbeats 4000000
namespace Lw
open PySem L2 PyProof.Rows Tx En EnL
theorem all_mk {l : PySem.W.OpenLaw} {w : World} {K : PySem.W.Frag} {h : Heap} {mg : Str → Option Value} {fa : Addr} (X : K.In h) (G : h.Ns mainGlobals mg) (hfa : mg "law" = some (.ref fa))
    {C_Tableau : Addr}
    {f0 : Addr} {od0 an0 : Option Addr} {sl0 : Array (Option Value)} {oc0 kV0 dc0 pm0 cd0 ct0 : Value}
    {f1 : Addr} {od1 an1 : Option Addr} {sl1 : Array (Option Value)} {oc1 kV1 dc1 pm1 cd1 ct1 : Value}
    {f2 : Addr} {od2 an2 : Option Addr} {sl2 : Array (Option Value)} {oc2 kV2 dc2 pm2 cd2 ct2 : Value}
    {f3 : Addr} {od3 an3 : Option Addr} {sl3 : Array (Option Value)} {oc3 kV3 dc3 pm3 cd3 ct3 : Value}
    {f4 : Addr} {od4 an4 : Option Addr} {sl4 : Array (Option Value)} {oc4 kV4 dc4 pm4 cd4 ct4 : Value}
    {f5 : Addr} {od5 an5 : Option Addr} {sl5 : Array (Option Value)} {oc5 kV5 dc5 pm5 cd5 ct5 : Value}
    {f6 : Addr} {od6 an6 : Option Addr} {sl6 : Array (Option Value)} {oc6 kV6 dc6 pm6 cd6 ct6 : Value}
    {f7 : Addr} {od7 an7 : Option Addr} {sl7 : Array (Option Value)} {oc7 kV7 dc7 pm7 cd7 ct7 : Value}
    {f8 : Addr} {od8 an8 : Option Addr} {sl8 : Array (Option Value)} {oc8 kV8 dc8 pm8 cd8 ct8 : Value}
    {f9 : Addr} {od9 an9 : Option Addr} {sl9 : Array (Option Value)} {oc9 kV9 dc9 pm9 cd9 ct9 : Value}
    {f10 : Addr} {od10 an10 : Option Addr} {sl10 : Array (Option Value)} {oc10 kV10 dc10 pm10 cd10 ct10 : Value}
    {f11 : Addr} {od11 an11 : Option Addr} {sl11 : Array (Option Value)} {oc11 kV11 dc11 pm11 cd11 ct11 : Value}
    {f12 : Addr} {od12 an12 : Option Addr} {sl12 : Array (Option Value)} {oc12 kV12 dc12 pm12 cd12 ct12 : Value}
    {f13 : Addr} {od13 an13 : Option Addr} {sl13 : Array (Option Value)} {oc13 kV13 dc13 pm13 cd13 ct13 : Value}
    {f14 : Addr} {od14 an14 : Option Addr} {sl14 : Array (Option Value)} {oc14 kV14 dc14 pm14 cd14 ct14 : Value}
    {f15 : Addr} {od15 an15 : Option Addr} {sl15 : Array (Option Value)} {oc15 kV15 dc15 pm15 cd15 ct15 : Value}
    {f16 : Addr} {od16 an16 : Option Addr} {sl16 : Array (Option Value)} {oc16 kV16 dc16 pm16 cd16 ct16 : Value}
    {f17 : Addr} {od17 an17 : Option Addr} {sl17 : Array (Option Value)} {oc17 kV17 dc17 pm17 cd17 ct17 : Value}
    {f18 : Addr} {od18 an18 : Option Addr} {sl18 : Array (Option Value)} {oc18 kV18 dc18 pm18 cd18 ct18 : Value}
    {f19 : Addr} {od19 an19 : Option Addr} {sl19 : Array (Option Value)} {oc19 kV19 dc19 pm19 cd19 ct19 : Value}
    {f20 : Addr} {od20 an20 : Option Addr} {sl20 : Array (Option Value)} {oc20 kV20 dc20 pm20 cd20 ct20 : Value}
    {f21 : Addr} {od21 an21 : Option Addr} {sl21 : Array (Option Value)} {oc21 kV21 dc21 pm21 cd21 ct21 : Value}
    {f22 : Addr} {od22 an22 : Option Addr} {sl22 : Array (Option Value)} {oc22 kV22 dc22 pm22 cd22 ct22 : Value}
    {f23 : Addr} {od23 an23 : Option Addr} {sl23 : Array (Option Value)} {oc23 kV23 dc23 pm23 cd23 ct23 : Value}
    {f24 : Addr} {od24 an24 : Option Addr} {sl24 : Array (Option Value)} {oc24 kV24 dc24 pm24 cd24 ct24 : Value}
    {f25 : Addr} {od25 an25 : Option Addr} {sl25 : Array (Option Value)} {oc25 kV25 dc25 pm25 cd25 ct25 : Value}
    {f26 : Addr} {od26 an26 : Option Addr} {sl26 : Array (Option Value)} {oc26 kV26 dc26 pm26 cd26 ct26 : Value}
    {f27 : Addr} {od27 an27 : Option Addr} {sl27 : Array (Option Value)} {oc27 kV27 dc27 pm27 cd27 ct27 : Value}
    {C_LightError : Addr}
    {C_BadNet : Addr}
    {C_OutOfRange : Addr}
    (q1_Tableau : PySem.W.nsIn K mainGlobals "Tableau" = some (some (.ref C_Tableau))) (q2_Tableau : PySem.W.plainGet K C_Tableau Str.empty = true) (q3_Tableau : PySem.W.hasDictIn K C_Tableau = true) (q4_Tableau : PySem.W.plainOver K C_Tableau = true) (q5_Tableau : PySem.W.findIn K (.ref C_Tableau) "__setattr__" = some (some (.builtin "object.__setattr__"))) (q6_Tableau : PySem.W.makesIn K C_Tableau = true) (q7_Tableau : PySem.W.keepIn K (.ref C_Tableau) = true)
    (n_Tableau_columns : PySem.W.findIn K (.ref C_Tableau) "columns" = some none)
    (n_Tableau_size : PySem.W.findIn K (.ref C_Tableau) "size" = some none)
    (n_Tableau_rows : PySem.W.findIn K (.ref C_Tableau) "rows" = some none)
    (n_Tableau_basis : PySem.W.findIn K (.ref C_Tableau) "basis" = some none)
    (n_Tableau_scale : PySem.W.findIn K (.ref C_Tableau) "scale" = some none)
    (n_Tableau_costs : PySem.W.findIn K (.ref C_Tableau) "costs" = some none)
    (a0 : PySem.W.nsIn K mainGlobals "fraction" = some (some (.ref f0))) (l0 : K.lookup f0 = some ⟨oc0, od0, .func (PySem.W.fnOf "fraction" "fraction" (defArgs s_fraction) (defBody s_fraction) (defScope s_fraction) .none kV0 dc0 pm0 an0 cd0 ct0), sl0⟩) (c0 : PySem.W.codeIn K cd0 "fraction" = true) (k0 : PySem.W.keepIn K (.ref f0) = true)
    (a1 : PySem.W.findIn K (.ref C_Tableau) "aim" = some (some (.ref f1))) (i1 : PySem.W.isFn K (.ref f1) = true) (l1 : K.lookup f1 = some ⟨oc1, od1, .func (PySem.W.fnOf "aim" "Tableau.aim" (defArgs s_Tableau_aim) (defBody s_Tableau_aim) (defScope s_Tableau_aim) .none kV1 dc1 pm1 an1 cd1 ct1), sl1⟩) (c1 : PySem.W.codeIn K cd1 "Tableau.aim" = true) (k1 : PySem.W.keepIn K (.ref f1) = true)
    (a2 : PySem.W.findIn K (.ref C_Tableau) "__init__" = some (some (.ref f2))) (i2 : PySem.W.isFn K (.ref f2) = true) (l2 : K.lookup f2 = some ⟨oc2, od2, .func (PySem.W.fnOf "__init__" "Tableau.__init__" (defArgs s_Tableau_init) (defBody s_Tableau_init) (defScope s_Tableau_init) .none kV2 dc2 pm2 an2 cd2 ct2), sl2⟩) (c2 : PySem.W.codeIn K cd2 "Tableau.__init__" = true) (k2 : PySem.W.keepIn K (.ref f2) = true)
    (a3 : PySem.W.findIn K (.ref C_Tableau) "entering" = some (some (.ref f3))) (i3 : PySem.W.isFn K (.ref f3) = true) (l3 : K.lookup f3 = some ⟨oc3, od3, .func (PySem.W.fnOf "entering" "Tableau.entering" (defArgs s_Tableau_entering) (defBody s_Tableau_entering) (defScope s_Tableau_entering) .none kV3 dc3 pm3 an3 cd3 ct3), sl3⟩) (c3 : PySem.W.codeIn K cd3 "Tableau.entering" = true) (k3 : PySem.W.keepIn K (.ref f3) = true)
    (a4 : PySem.W.findIn K (.ref C_Tableau) "leaving" = some (some (.ref f4))) (i4 : PySem.W.isFn K (.ref f4) = true) (l4 : K.lookup f4 = some ⟨oc4, od4, .func (PySem.W.fnOf "leaving" "Tableau.leaving" (defArgs s_Tableau_leaving) (defBody s_Tableau_leaving) (defScope s_Tableau_leaving) .none kV4 dc4 pm4 an4 cd4 ct4), sl4⟩) (c4 : PySem.W.codeIn K cd4 "Tableau.leaving" = true) (k4 : PySem.W.keepIn K (.ref f4) = true)
    (a5 : PySem.W.findIn K (.ref C_Tableau) "cleared" = some (some (.ref f5))) (i5 : PySem.W.isFn K (.ref f5) = true) (l5 : K.lookup f5 = some ⟨oc5, od5, .func (PySem.W.fnOf "cleared" "Tableau.cleared" (defArgs s_Tableau_cleared) (defBody s_Tableau_cleared) (defScope s_Tableau_cleared) .none kV5 dc5 pm5 an5 cd5 ct5), sl5⟩) (c5 : PySem.W.codeIn K cd5 "Tableau.cleared" = true) (k5 : PySem.W.keepIn K (.ref f5) = true)
    (a6 : PySem.W.findIn K (.ref C_Tableau) "turn" = some (some (.ref f6))) (i6 : PySem.W.isFn K (.ref f6) = true) (l6 : K.lookup f6 = some ⟨oc6, od6, .func (PySem.W.fnOf "turn" "Tableau.turn" (defArgs s_Tableau_turn) (defBody s_Tableau_turn) (defScope s_Tableau_turn) .none kV6 dc6 pm6 an6 cd6 ct6), sl6⟩) (c6 : PySem.W.codeIn K cd6 "Tableau.turn" = true) (k6 : PySem.W.keepIn K (.ref f6) = true)
    (a7 : PySem.W.findIn K (.ref C_Tableau) "search" = some (some (.ref f7))) (i7 : PySem.W.isFn K (.ref f7) = true) (l7 : K.lookup f7 = some ⟨oc7, od7, .func (PySem.W.fnOf "search" "Tableau.search" (defArgs s_Tableau_search) (defBody s_Tableau_search) (defScope s_Tableau_search) .none kV7 dc7 pm7 an7 cd7 ct7), sl7⟩) (c7 : PySem.W.codeIn K cd7 "Tableau.search" = true) (k7 : PySem.W.keepIn K (.ref f7) = true)
    (a8 : PySem.W.findIn K (.ref C_Tableau) "found" = some (some (.ref f8))) (i8 : PySem.W.isFn K (.ref f8) = true) (l8 : K.lookup f8 = some ⟨oc8, od8, .func (PySem.W.fnOf "found" "Tableau.found" (defArgs s_Tableau_found) (defBody s_Tableau_found) (defScope s_Tableau_found) .none kV8 dc8 pm8 an8 cd8 ct8), sl8⟩) (c8 : PySem.W.codeIn K cd8 "Tableau.found" = true) (k8 : PySem.W.keepIn K (.ref f8) = true)
    (a9 : PySem.W.nsIn K mainGlobals "equations_of" = some (some (.ref f9))) (l9 : K.lookup f9 = some ⟨oc9, od9, .func (PySem.W.fnOf "equations_of" "equations_of" (defArgs s_equations_of) (defBody s_equations_of) (defScope s_equations_of) .none kV9 dc9 pm9 an9 cd9 ct9), sl9⟩) (c9 : PySem.W.codeIn K cd9 "equations_of" = true) (k9 : PySem.W.keepIn K (.ref f9) = true)
    (a10 : PySem.W.nsIn K mainGlobals "without_divisor" = some (some (.ref f10))) (l10 : K.lookup f10 = some ⟨oc10, od10, .func (PySem.W.fnOf "without_divisor" "without_divisor" (defArgs s_without_divisor) (defBody s_without_divisor) (defScope s_without_divisor) .none kV10 dc10 pm10 an10 cd10 ct10), sl10⟩) (c10 : PySem.W.codeIn K cd10 "without_divisor" = true) (k10 : PySem.W.keepIn K (.ref f10) = true)
    (a11 : PySem.W.nsIn K mainGlobals "solve" = some (some (.ref f11))) (l11 : K.lookup f11 = some ⟨oc11, od11, .func (PySem.W.fnOf "solve" "solve" (defArgs s_solve) (defBody s_solve) (defScope s_solve) .none kV11 dc11 pm11 an11 cd11 ct11), sl11⟩) (c11 : PySem.W.codeIn K cd11 "solve" = true) (k11 : PySem.W.keepIn K (.ref f11) = true)
    (a12 : PySem.W.nsIn K mainGlobals "_law_cell" = some (some (.ref f12))) (l12 : K.lookup f12 = some ⟨oc12, od12, .func (PySem.W.fnOf "_law_cell" "_law_cell" (defArgs s_law_cell) (defBody s_law_cell) (defScope s_law_cell) .none kV12 dc12 pm12 an12 cd12 ct12), sl12⟩) (c12 : PySem.W.codeIn K cd12 "_law_cell" = true) (k12 : PySem.W.keepIn K (.ref f12) = true)
    (a13 : PySem.W.nsIn K mainGlobals "_law_draws" = some (some (.ref f13))) (l13 : K.lookup f13 = some ⟨oc13, od13, .func (PySem.W.fnOf "_law_draws" "_law_draws" (defArgs s_law_draws) (defBody s_law_draws) (defScope s_law_draws) .none kV13 dc13 pm13 an13 cd13 ct13), sl13⟩) (c13 : PySem.W.codeIn K cd13 "_law_draws" = true) (k13 : PySem.W.keepIn K (.ref f13) = true)
    (a14 : PySem.W.nsIn K mainGlobals "_law_gcd" = some (some (.ref f14))) (l14 : K.lookup f14 = some ⟨oc14, od14, .func (PySem.W.fnOf "_law_gcd" "_law_gcd" (defArgs s_law_gcd) (defBody s_law_gcd) (defScope s_law_gcd) .none kV14 dc14 pm14 an14 cd14 ct14), sl14⟩) (c14 : PySem.W.codeIn K cd14 "_law_gcd" = true) (k14 : PySem.W.keepIn K (.ref f14) = true)
    (a15 : PySem.W.nsIn K mainGlobals "_law_fraction" = some (some (.ref f15))) (l15 : K.lookup f15 = some ⟨oc15, od15, .func (PySem.W.fnOf "_law_fraction" "_law_fraction" (defArgs s_law_fraction) (defBody s_law_fraction) (defScope s_law_fraction) .none kV15 dc15 pm15 an15 cd15 ct15), sl15⟩) (c15 : PySem.W.codeIn K cd15 "_law_fraction" = true) (k15 : PySem.W.keepIn K (.ref f15) = true)
    (a16 : PySem.W.nsIn K mainGlobals "_law_plus" = some (some (.ref f16))) (l16 : K.lookup f16 = some ⟨oc16, od16, .func (PySem.W.fnOf "_law_plus" "_law_plus" (defArgs s_law_plus) (defBody s_law_plus) (defScope s_law_plus) .none kV16 dc16 pm16 an16 cd16 ct16), sl16⟩) (c16 : PySem.W.codeIn K cd16 "_law_plus" = true) (k16 : PySem.W.keepIn K (.ref f16) = true)
    (a17 : PySem.W.nsIn K mainGlobals "_law_shorter" = some (some (.ref f17))) (l17 : K.lookup f17 = some ⟨oc17, od17, .func (PySem.W.fnOf "_law_shorter" "_law_shorter" (defArgs s_law_shorter) (defBody s_law_shorter) (defScope s_law_shorter) .none kV17 dc17 pm17 an17 cd17 ct17), sl17⟩) (c17 : PySem.W.codeIn K cd17 "_law_shorter" = true) (k17 : PySem.W.keepIn K (.ref f17) = true)
    (a18 : PySem.W.nsIn K mainGlobals "_law_without" = some (some (.ref f18))) (l18 : K.lookup f18 = some ⟨oc18, od18, .func (PySem.W.fnOf "_law_without" "_law_without" (defArgs s_law_without) (defBody s_law_without) (defScope s_law_without) .none kV18 dc18 pm18 an18 cd18 ct18), sl18⟩) (c18 : PySem.W.codeIn K cd18 "_law_without" = true) (k18 : PySem.W.keepIn K (.ref f18) = true)
    (a19 : PySem.W.nsIn K mainGlobals "_law_possible" = some (some (.ref f19))) (l19 : K.lookup f19 = some ⟨oc19, od19, .func (PySem.W.fnOf "_law_possible" "_law_possible" (defArgs s_law_possible) (defBody s_law_possible) (defScope s_law_possible) .none kV19 dc19 pm19 an19 cd19 ct19), sl19⟩) (c19 : PySem.W.codeIn K cd19 "_law_possible" = true) (k19 : PySem.W.keepIn K (.ref f19) = true)
    (a20 : PySem.W.nsIn K mainGlobals "_law_scaled" = some (some (.ref f20))) (l20 : K.lookup f20 = some ⟨oc20, od20, .func (PySem.W.fnOf "_law_scaled" "_law_scaled" (defArgs s_law_scaled) (defBody s_law_scaled) (defScope s_law_scaled) .none kV20 dc20 pm20 an20 cd20 ct20), sl20⟩) (c20 : PySem.W.codeIn K cd20 "_law_scaled" = true) (k20 : PySem.W.keepIn K (.ref f20) = true)
    (a21 : PySem.W.nsIn K mainGlobals "_law_sum" = some (some (.ref f21))) (l21 : K.lookup f21 = some ⟨oc21, od21, .func (PySem.W.fnOf "_law_sum" "_law_sum" (defArgs s_law_sum) (defBody s_law_sum) (defScope s_law_sum) .none kV21 dc21 pm21 an21 cd21 ct21), sl21⟩) (c21 : PySem.W.codeIn K cd21 "_law_sum" = true) (k21 : PySem.W.keepIn K (.ref f21) = true)
    (a22 : PySem.W.nsIn K mainGlobals "_law_is_refusal" = some (some (.ref f22))) (l22 : K.lookup f22 = some ⟨oc22, od22, .func (PySem.W.fnOf "_law_is_refusal" "_law_is_refusal" (defArgs s_law_is_refusal) (defBody s_law_is_refusal) (defScope s_law_is_refusal) .none kV22 dc22 pm22 an22 cd22 ct22), sl22⟩) (c22 : PySem.W.codeIn K cd22 "_law_is_refusal" = true) (k22 : PySem.W.keepIn K (.ref f22) = true)
    (a23 : PySem.W.nsIn K mainGlobals "_law_refused" = some (some (.ref f23))) (l23 : K.lookup f23 = some ⟨oc23, od23, .func (PySem.W.fnOf "_law_refused" "_law_refused" (defArgs s_law_refused) (defBody s_law_refused) (defScope s_law_refused) .none kV23 dc23 pm23 an23 cd23 ct23), sl23⟩) (c23 : PySem.W.codeIn K cd23 "_law_refused" = true) (k23 : PySem.W.keepIn K (.ref f23) = true)
    (a24 : PySem.W.nsIn K mainGlobals "_law_rows" = some (some (.ref f24))) (l24 : K.lookup f24 = some ⟨oc24, od24, .func (PySem.W.fnOf "_law_rows" "_law_rows" (defArgs s_law_rows) (defBody s_law_rows) (defScope s_law_rows) .none kV24 dc24 pm24 an24 cd24 ct24), sl24⟩) (c24 : PySem.W.codeIn K cd24 "_law_rows" = true) (k24 : PySem.W.keepIn K (.ref f24) = true)
    (a25 : PySem.W.nsIn K mainGlobals "_law_satisfied" = some (some (.ref f25))) (l25 : K.lookup f25 = some ⟨oc25, od25, .func (PySem.W.fnOf "_law_satisfied" "_law_satisfied" (defArgs s_law_satisfied) (defBody s_law_satisfied) (defScope s_law_satisfied) .none kV25 dc25 pm25 an25 cd25 ct25), sl25⟩) (c25 : PySem.W.codeIn K cd25 "_law_satisfied" = true) (k25 : PySem.W.keepIn K (.ref f25) = true)
    (a26 : PySem.W.nsIn K mainGlobals "_law_right" = some (some (.ref f26))) (l26 : K.lookup f26 = some ⟨oc26, od26, .func (PySem.W.fnOf "_law_right" "_law_right" (defArgs s_law_right) (defBody s_law_right) (defScope s_law_right) .none kV26 dc26 pm26 an26 cd26 ct26), sl26⟩) (c26 : PySem.W.codeIn K cd26 "_law_right" = true) (k26 : PySem.W.keepIn K (.ref f26) = true)
    (a27 : PySem.W.nsIn K mainGlobals "law" = some (some (.ref f27))) (l27 : K.lookup f27 = some ⟨oc27, od27, .func (PySem.W.fnOf "law" "law" (defArgs s_law) (defBody s_law) (defScope s_law) .none kV27 dc27 pm27 an27 cd27 ct27), sl27⟩) (c27 : PySem.W.codeIn K cd27 "law" = true) (k27 : PySem.W.keepIn K (.ref f27) = true)
    (z_ValueError : PySem.W.nsIn K mainGlobals "ValueError" = some none)
    (z_abs : PySem.W.nsIn K mainGlobals "abs" = some none)
    (z_all : PySem.W.nsIn K mainGlobals "all" = some none)
    (z_any : PySem.W.nsIn K mainGlobals "any" = some none)
    (z_bool : PySem.W.nsIn K mainGlobals "bool" = some none)
    (z_enumerate : PySem.W.nsIn K mainGlobals "enumerate" = some none)
    (z_int : PySem.W.nsIn K mainGlobals "int" = some none)
    (z_isinstance : PySem.W.nsIn K mainGlobals "isinstance" = some none)
    (z_len : PySem.W.nsIn K mainGlobals "len" = some none)
    (z_list : PySem.W.nsIn K mainGlobals "list" = some none)
    (z_min : PySem.W.nsIn K mainGlobals "min" = some none)
    (z_range : PySem.W.nsIn K mainGlobals "range" = some none)
    (z_repr : PySem.W.nsIn K mainGlobals "repr" = some none)
    (z_sum : PySem.W.nsIn K mainGlobals "sum" = some none)
    (z_tuple : PySem.W.nsIn K mainGlobals "tuple" = some none)
    (z_zip : PySem.W.nsIn K mainGlobals "zip" = some none)
    (v_gcd : PySem.W.nsIn K mainGlobals "gcd" = some (some (.builtin "math.gcd")))
    (g_LightError : PySem.W.nsIn K mainGlobals "LightError" = some (some (.ref C_LightError))) (x_LightError : PySem.W.excIn K C_LightError [.type "ValueError", .type "Exception", .type "BaseException", .type "object"] "ValueError.__new__" = true) (k_LightError : PySem.W.keepIn K (.ref C_LightError) = true) (b_LightError : PySem.W.subIn K (.ref C_LightError) (.type "BaseException") = some true) (t_LightError : PySem.W.typeIn K (.ref C_LightError) = some (.type "type"))
    (h_LightError : PySem.W.hasDictIn K C_LightError = true)
    (g_BadNet : PySem.W.nsIn K mainGlobals "BadNet" = some (some (.ref C_BadNet))) (x_BadNet : PySem.W.excIn K C_BadNet [.type "ValueError", .type "Exception", .type "BaseException", .type "object"] "ValueError.__new__" = true) (k_BadNet : PySem.W.keepIn K (.ref C_BadNet) = true) (b_BadNet : PySem.W.subIn K (.ref C_BadNet) (.type "BaseException") = some true) (t_BadNet : PySem.W.typeIn K (.ref C_BadNet) = some (.type "type"))
    (h_BadNet : PySem.W.hasDictIn K C_BadNet = true)
    (g_OutOfRange : PySem.W.nsIn K mainGlobals "OutOfRange" = some (some (.ref C_OutOfRange))) (x_OutOfRange : PySem.W.excIn K C_OutOfRange [.type "ValueError", .type "Exception", .type "BaseException", .type "object"] "ValueError.__new__" = true) (k_OutOfRange : PySem.W.keepIn K (.ref C_OutOfRange) = true) (b_OutOfRange : PySem.W.subIn K (.ref C_OutOfRange) (.type "BaseException") = some true) (t_OutOfRange : PySem.W.typeIn K (.ref C_OutOfRange) = some (.type "type"))
    (h_OutOfRange : PySem.W.hasDictIn K C_OutOfRange = true)
    (e1_OutOfRange : PySem.W.findIn K (.ref C_OutOfRange) "__getattribute__" = some (some (.builtin "BaseException.__getattribute__"))) (e2_OutOfRange : PySem.W.findIn K (.ref C_OutOfRange) "__getattr__" = some none) (e3_OutOfRange : PySem.W.findIn K (.ref C_OutOfRange) "__class__" = some (some (.builtin "object.__class__"))) (e4_OutOfRange : PySem.W.specialIn K (.builtin "object.__class__") "__get__" = some (some (.builtin "getset_descriptor.__get__"))) (e5_OutOfRange : PySem.W.takesIn K (.builtin "object.__class__") = some true) (e6_OutOfRange : PySem.W.mroIn K C_OutOfRange (.type "object") = some true) (e7_OutOfRange : PySem.W.subIn K (.ref C_OutOfRange) (.ref C_OutOfRange) = some true)
    (s_OutOfRange_BadNet : PySem.W.subIn K (.ref C_OutOfRange) (.ref C_BadNet) = some false)
    (n_OutOfRange_BadNet : (Value.ref C_OutOfRange == Value.ref C_BadNet) = false)
    (s_OutOfRange_LightError : PySem.W.subIn K (.ref C_OutOfRange) (.ref C_LightError) = some true)
    (s_OutOfRange_ValueError : PySem.W.subIn K (.ref C_OutOfRange) (.type "ValueError") = some true) :
    ∃ fd : FuncData, (∀ (s : Shared) (v : Value), BindsTo s fd ⟨[v], []⟩ [("_law_script", v)]) ∧ ∀ base : Heap, K.In base → base.Ns mainGlobals mg → FnG l.prog w K mg base 6 fa fd ["_law_script"] (spLaw K) := by
  have hnob : ∀ x ∈ (["ValueError", "abs", "all", "any", "bool", "enumerate", "int", "isinstance", "len", "list", "min", "range", "repr", "sum", "tuple", "zip"] : List Str), mg x = none := by
    intro x hx
    simp only [List.mem_cons, List.not_mem_nil, or_false] at hx
    rcases hx with rfl | rfl | rfl | rfl | rfl | rfl | rfl | rfl | rfl | rfl | rfl | rfl | rfl | rfl | rfl | rfl
    · exact PySem.W.mg_none_of X G z_ValueError
    · exact PySem.W.mg_none_of X G z_abs
    · exact PySem.W.mg_none_of X G z_all
    · exact PySem.W.mg_none_of X G z_any
    · exact PySem.W.mg_none_of X G z_bool
    · exact PySem.W.mg_none_of X G z_enumerate
    · exact PySem.W.mg_none_of X G z_int
    · exact PySem.W.mg_none_of X G z_isinstance
    · exact PySem.W.mg_none_of X G z_len
    · exact PySem.W.mg_none_of X G z_list
    · exact PySem.W.mg_none_of X G z_min
    · exact PySem.W.mg_none_of X G z_range
    · exact PySem.W.mg_none_of X G z_repr
    · exact PySem.W.mg_none_of X G z_sum
    · exact PySem.W.mg_none_of X G z_tuple
    · exact PySem.W.mg_none_of X G z_zip
  have cls_Tableau : Cls K C_Tableau := ⟨q2_Tableau, q3_Tableau, q4_Tableau, q5_Tableau⟩
  have d0 : Dn K mg "fraction" "fraction" s_fraction ["top", "low"] := dn_mk (PySem.W.mg_of X G a0) l0 c0 k0 fun _ _ _ _ _ _ us hl => match us, hl with | [_, _], _ => rfl
  have d9 : Dn K mg "equations_of" "equations_of" s_equations_of ["conditions", "goals"] := dn_mk (PySem.W.mg_of X G a9) l9 c9 k9 fun _ _ _ _ _ _ us hl => match us, hl with | [_, _], _ => rfl
  have d10 : Dn K mg "without_divisor" "without_divisor" s_without_divisor ["integers"] := dn_mk (PySem.W.mg_of X G a10) l10 c10 k10 fun _ _ _ _ _ _ us hl => match us, hl with | [_], _ => rfl
  have d11 : Dn K mg "solve" "solve" s_solve ["conditions", "count"] := dn_mk (PySem.W.mg_of X G a11) l11 c11 k11 fun _ _ _ _ _ _ us hl => match us, hl with | [_, _], _ => rfl
  have d12 : Dn K mg "_law_cell" "_law_cell" s_law_cell ["_law_script", "_law_k"] := dn_mk (PySem.W.mg_of X G a12) l12 c12 k12 fun _ _ _ _ _ _ us hl => match us, hl with | [_, _], _ => rfl
  have d13 : Dn K mg "_law_draws" "_law_draws" s_law_draws ["_law_cell_here", "_law_limits"] := dn_mk (PySem.W.mg_of X G a13) l13 c13 k13 fun _ _ _ _ _ _ us hl => match us, hl with | [_, _], _ => rfl
  have d14 : Dn K mg "_law_gcd" "_law_gcd" s_law_gcd ["_law_a", "_law_b"] := dn_mk (PySem.W.mg_of X G a14) l14 c14 k14 fun _ _ _ _ _ _ us hl => match us, hl with | [_, _], _ => rfl
  have d15 : Dn K mg "_law_fraction" "_law_fraction" s_law_fraction ["_law_top", "_law_low"] := dn_mk (PySem.W.mg_of X G a15) l15 c15 k15 fun _ _ _ _ _ _ us hl => match us, hl with | [_, _], _ => rfl
  have d16 : Dn K mg "_law_plus" "_law_plus" s_law_plus ["_law_first", "_law_second"] := dn_mk (PySem.W.mg_of X G a16) l16 c16 k16 fun _ _ _ _ _ _ us hl => match us, hl with | [_, _], _ => rfl
  have d17 : Dn K mg "_law_shorter" "_law_shorter" s_law_shorter ["_law_row"] := dn_mk (PySem.W.mg_of X G a17) l17 c17 k17 fun _ _ _ _ _ _ us hl => match us, hl with | [_], _ => rfl
  have d18 : Dn K mg "_law_without" "_law_without" s_law_without ["_law_rows_here", "_law_place"] := dn_mk (PySem.W.mg_of X G a18) l18 c18 k18 fun _ _ _ _ _ _ us hl => match us, hl with | [_, _], _ => rfl
  have d19 : Dn K mg "_law_possible" "_law_possible" s_law_possible ["_law_conditions", "_law_count"] := dn_mk (PySem.W.mg_of X G a19) l19 c19 k19 fun _ _ _ _ _ _ us hl => match us, hl with | [_, _], _ => rfl
  have d20 : Dn K mg "_law_scaled" "_law_scaled" s_law_scaled ["_law_first", "_law_number"] := dn_mk (PySem.W.mg_of X G a20) l20 c20 k20 fun _ _ _ _ _ _ us hl => match us, hl with | [_, _], _ => rfl
  have d21 : Dn K mg "_law_sum" "_law_sum" s_law_sum ["_law_fractions"] := dn_mk (PySem.W.mg_of X G a21) l21 c21 k21 fun _ _ _ _ _ _ us hl => match us, hl with | [_], _ => rfl
  have d22 : Dn K mg "_law_is_refusal" "_law_is_refusal" s_law_is_refusal ["_law_rows_here", "_law_integers"] := dn_mk (PySem.W.mg_of X G a22) l22 c22 k22 fun _ _ _ _ _ _ us hl => match us, hl with | [_, _], _ => rfl
  have d23 : Dn K mg "_law_refused" "_law_refused" s_law_refused ["_law_rows_here", "_law_count"] := dn_mk (PySem.W.mg_of X G a23) l23 c23 k23 fun _ _ _ _ _ _ us hl => match us, hl with | [_, _], _ => rfl
  have d24 : Dn K mg "_law_rows" "_law_rows" s_law_rows ["_law_cell_here", "_law_more", "_law_count"] := dn_mk (PySem.W.mg_of X G a24) l24 c24 k24 fun _ _ _ _ _ _ us hl => match us, hl with | [_, _, _], _ => rfl
  have d25 : Dn K mg "_law_satisfied" "_law_satisfied" s_law_satisfied ["_law_rows_here", "_law_count", "_law_told"] := dn_mk (PySem.W.mg_of X G a25) l25 c25 k25 fun _ _ _ _ _ _ us hl => match us, hl with | [_, _, _], _ => rfl
  have d26 : Dn K mg "_law_right" "_law_right" s_law_right ["_law_rows_here", "_law_count", "_law_told"] := dn_mk (PySem.W.mg_of X G a26) l26 c26 k26 fun _ _ _ _ _ _ us hl => match us, hl with | [_, _, _], _ => rfl
  have d27 : Dn K mg "law" "law" s_law ["_law_script"] := dn_mk (PySem.W.mg_of X G a27) l27 c27 k27 fun _ _ _ _ _ _ us hl => match us, hl with | [_], _ => rfl
  have q_LightError : ExF K mg "LightError" C_LightError := ⟨PySem.W.mg_of X G g_LightError, x_LightError, k_LightError, b_LightError, t_LightError⟩
  have q_BadNet : ExF K mg "BadNet" C_BadNet := ⟨PySem.W.mg_of X G g_BadNet, x_BadNet, k_BadNet, b_BadNet, t_BadNet⟩
  have q_OutOfRange : ExF K mg "OutOfRange" C_OutOfRange := ⟨PySem.W.mg_of X G g_OutOfRange, x_OutOfRange, k_OutOfRange, b_OutOfRange, t_OutOfRange⟩
  let W : Vp := ⟨⟨fun x => if x = "Tableau" then some C_Tableau else none, none⟩, fun n => [C_LightError, C_BadNet, 0, C_OutOfRange, 0, 0, 0].getD n 0⟩
  have w_Tableau : W.rc.cl "Tableau" = some C_Tableau := by
    show (if ("Tableau" : Str) = "Tableau" then some C_Tableau else none) = some C_Tableau
    rw [if_pos rfl]
  have na_Tableau : ∀ f ∈ ns_Tableau, NoAttr K C_Tableau f := by
    intro f hf
    simp only [List.mem_cons, List.not_mem_nil, or_false] at hf
    rcases hf with rfl | rfl | rfl | rfl | rfl | rfl
    · exact n_Tableau_columns
    · exact n_Tableau_size
    · exact n_Tableau_rows
    · exact n_Tableau_basis
    · exact n_Tableau_scale
    · exact n_Tableau_costs
  have d1 : Mth K W "Tableau" "aim" "Tableau.aim" s_Tableau_aim ["self", "costs"] := ⟨_, _, _, w_Tableau, cls_Tableau, ⟨a1, i1, k1⟩, (fun_mk (st := s_Tableau_aim) l1 c1 k1), ((fun_mk (st := s_Tableau_aim) l1 c1 k1).binds (ps := ["self", "costs"]) fun _ _ _ _ _ _ us hl => match us, hl with | [_, _], _ => rfl)⟩
  have d2 : Ini K mg W "Tableau" "Tableau.__init__" s_Tableau_init ["self", "equations", "columns"] := ⟨_, _, _, w_Tableau, PySem.W.mg_of X G q1_Tableau, ⟨q6_Tableau, a2, i2, q7_Tableau⟩, (fun_mk (st := s_Tableau_init) l2 c2 k2), ((fun_mk (st := s_Tableau_init) l2 c2 k2).binds (ps := ["self", "equations", "columns"]) fun _ _ _ _ _ _ us hl => match us, hl with | [_, _, _], _ => rfl)⟩
  have d3 : Mth K W "Tableau" "entering" "Tableau.entering" s_Tableau_entering ["self"] := ⟨_, _, _, w_Tableau, cls_Tableau, ⟨a3, i3, k3⟩, (fun_mk (st := s_Tableau_entering) l3 c3 k3), ((fun_mk (st := s_Tableau_entering) l3 c3 k3).binds (ps := ["self"]) fun _ _ _ _ _ _ us hl => match us, hl with | [_], _ => rfl)⟩
  have d4 : Mth K W "Tableau" "leaving" "Tableau.leaving" s_Tableau_leaving ["self", "column"] := ⟨_, _, _, w_Tableau, cls_Tableau, ⟨a4, i4, k4⟩, (fun_mk (st := s_Tableau_leaving) l4 c4 k4), ((fun_mk (st := s_Tableau_leaving) l4 c4 k4).binds (ps := ["self", "column"]) fun _ _ _ _ _ _ us hl => match us, hl with | [_, _], _ => rfl)⟩
  have d5 : Mth K W "Tableau" "cleared" "Tableau.cleared" s_Tableau_cleared ["self", "row", "chosen", "pivot", "column"] := ⟨_, _, _, w_Tableau, cls_Tableau, ⟨a5, i5, k5⟩, (fun_mk (st := s_Tableau_cleared) l5 c5 k5), ((fun_mk (st := s_Tableau_cleared) l5 c5 k5).binds (ps := ["self", "row", "chosen", "pivot", "column"]) fun _ _ _ _ _ _ us hl => match us, hl with | [_, _, _, _, _], _ => rfl)⟩
  have d6 : Mth K W "Tableau" "turn" "Tableau.turn" s_Tableau_turn ["self", "at", "column"] := ⟨_, _, _, w_Tableau, cls_Tableau, ⟨a6, i6, k6⟩, (fun_mk (st := s_Tableau_turn) l6 c6 k6), ((fun_mk (st := s_Tableau_turn) l6 c6 k6).binds (ps := ["self", "at", "column"]) fun _ _ _ _ _ _ us hl => match us, hl with | [_, _, _], _ => rfl)⟩
  have d7 : Mth K W "Tableau" "search" "Tableau.search" s_Tableau_search ["self"] := ⟨_, _, _, w_Tableau, cls_Tableau, ⟨a7, i7, k7⟩, (fun_mk (st := s_Tableau_search) l7 c7 k7), ((fun_mk (st := s_Tableau_search) l7 c7 k7).binds (ps := ["self"]) fun _ _ _ _ _ _ us hl => match us, hl with | [_], _ => rfl)⟩
  have d8 : Mth K W "Tableau" "found" "Tableau.found" s_Tableau_found ["self"] := ⟨_, _, _, w_Tableau, cls_Tableau, ⟨a8, i8, k8⟩, (fun_mk (st := s_Tableau_found) l8 c8 k8), ((fun_mk (st := s_Tableau_found) l8 c8 k8).binds (ps := ["self"]) fun _ _ _ _ _ _ us hl => match us, hl with | [_], _ => rfl)⟩
  have B : Bs K mg W := {
    nob := hnob
    cl_Tableau := ⟨C_Tableau, w_Tableau, cls_Tableau, na_Tableau⟩
    gcd := PySem.W.mg_of X G v_gcd
    x_OutOfRange := q_OutOfRange
    x_LightError := q_LightError
    x_BadNet := q_BadNet
    c_OutOfRange := ⟨e1_OutOfRange, e2_OutOfRange, b_OutOfRange, h_OutOfRange, e3_OutOfRange, e4_OutOfRange, e5_OutOfRange, e6_OutOfRange⟩
    e_OutOfRange_OutOfRange := PySem.W.exm_ref b_OutOfRange h_OutOfRange t_OutOfRange e7_OutOfRange
    i_OutOfRange_BadNet := kit_ref t_BadNet h_BadNet s_OutOfRange_BadNet (.inr n_OutOfRange_BadNet)
    i_OutOfRange_LightError := kit_ref t_LightError h_LightError s_OutOfRange_LightError (.inl rfl)
    i_OutOfRange_ValueError := kit_vE s_OutOfRange_ValueError }
  have e := hfa.symm.trans (PySem.W.mg_of X G a27)
  cases e
  refine ⟨PySem.W.fnOf "law" "law" (defArgs s_law) (defBody s_law) (defScope s_law) .none kV27 dc27 pm27 an27 cd27 ct27, fun s v => .of_eq rfl, fun base _ _ => ?_⟩
  have c_fraction := ok_fraction (P := l.prog) (w := w) (mg := mg) (base := base) B rfl d0
  have c_Tableau_aim := ok_Tableau_aim (P := l.prog) (w := w) (mg := mg) (base := base) B rfl d1
  have c_Tableau_init := ok_Tableau_init (P := l.prog) (w := w) (mg := mg) (base := base) B rfl d2 c_Tableau_aim
  have c_Tableau_entering := ok_Tableau_entering (P := l.prog) (w := w) (mg := mg) (base := base) B rfl d3
  have c_Tableau_leaving := ok_Tableau_leaving (P := l.prog) (w := w) (mg := mg) (base := base) B rfl d4
  have c_Tableau_cleared := ok_Tableau_cleared (P := l.prog) (w := w) (mg := mg) (base := base) B rfl d5
  have c_Tableau_turn := ok_Tableau_turn (P := l.prog) (w := w) (mg := mg) (base := base) B rfl d6 c_Tableau_cleared
  have c_Tableau_search := ok_Tableau_search (P := l.prog) (w := w) (mg := mg) (base := base) B rfl d7 c_Tableau_entering c_Tableau_leaving c_Tableau_turn
  have c_Tableau_found := ok_Tableau_found (P := l.prog) (w := w) (mg := mg) (base := base) B rfl d8
  have c_equations_of := ok_equations_of (P := l.prog) (w := w) (mg := mg) (base := base) B rfl d9
  have c_without_divisor := ok_without_divisor (P := l.prog) (w := w) (mg := mg) (base := base) B rfl d10
  have c_solve := ok_solve (P := l.prog) (w := w) (mg := mg) (base := base) B rfl d11 c_fraction c_Tableau_init c_Tableau_search c_Tableau_found c_equations_of c_without_divisor
  have c_law_cell := ok_law_cell (P := l.prog) (w := w) (mg := mg) (base := base) B rfl d12
  have c_law_draws := ok_law_draws (P := l.prog) (w := w) (mg := mg) (base := base) B rfl d13
  have c_law_gcd := ok_law_gcd (P := l.prog) (w := w) (mg := mg) (base := base) B rfl d14
  have c_law_fraction := ok_law_fraction (P := l.prog) (w := w) (mg := mg) (base := base) B rfl d15 c_law_gcd
  have c_law_plus := ok_law_plus (P := l.prog) (w := w) (mg := mg) (base := base) B rfl d16 c_law_fraction
  have c_law_shorter := ok_law_shorter (P := l.prog) (w := w) (mg := mg) (base := base) B rfl d17 c_law_gcd
  have c_law_without := ok_law_without (P := l.prog) (w := w) (mg := mg) (base := base) B rfl d18 c_law_shorter
  have c_law_possible := ok_law_possible (P := l.prog) (w := w) (mg := mg) (base := base) B rfl d19 c_law_shorter c_law_without
  have c_law_scaled := ok_law_scaled (P := l.prog) (w := w) (mg := mg) (base := base) B rfl d20 c_law_fraction
  have c_law_sum := ok_law_sum (P := l.prog) (w := w) (mg := mg) (base := base) B rfl d21 c_law_plus
  have c_law_is_refusal := ok_law_is_refusal (P := l.prog) (w := w) (mg := mg) (base := base) B rfl d22
  have c_law_refused := ok_law_refused (P := l.prog) (w := w) (mg := mg) (base := base) B rfl d23 c_solve
  have c_law_rows := ok_law_rows (P := l.prog) (w := w) (mg := mg) (base := base) B rfl d24 c_law_draws
  have c_law_satisfied := ok_law_satisfied (P := l.prog) (w := w) (mg := mg) (base := base) B rfl d25 c_law_scaled c_law_sum
  have c_law_right := ok_law_right (P := l.prog) (w := w) (mg := mg) (base := base) B rfl d26 c_law_gcd c_law_fraction c_law_possible c_law_scaled c_law_sum c_law_is_refusal
  have r_law := ok_law (P := l.prog) (w := w) (base := base) (mg := mg) B rfl (fun_mk (st := s_law) l27 c27 k27) c_solve c_law_cell c_law_is_refusal c_law_refused c_law_rows c_law_satisfied c_law_right
  exact law_end r_law fun ns hl => plain ns hl
theorem walk {l : PySem.W.OpenLaw} {q : Program} {loose : List Str} {XP : (Str → Option Value) → Heap → Prop} {YP : World → Heap → Prop} {d : DefRec} {K : Params → PySem.W.Frag} (hn : l.most = some 63) (hdf : d.params.defaults = []) (hY : ∀ (w : World) (h : Heap), YP w h → (K w.params).In h)
    (F : ∀ (w : World) (mg : Str → Option Value) (fa : Addr) (h : Heap), (K w.params).In h → h.Ns mainGlobals mg → mg d.name = some (.ref fa) →
      ∃ fd : FuncData, (∀ (s : Shared) (u : Value), BindsTo s fd ⟨[u], []⟩ [("_law_script", u)]) ∧ ∀ base : Heap, (K w.params).In base → base.Ns mainGlobals mg → FnG l.prog w (K w.params) mg base 6 fa fd ["_law_script"] (spLaw (K w.params))) :
    PySem.W.WalkO q loose XP YP l.row.toRowW d [] (fun f vs => PySem.call f vs) :=
  walkG hn hdf ⟨rfl, by decide, by decide⟩ hY F fun _ _ a ns hl hs => ⟨a, ns, rfl, hs, hl, fun _ => rfl⟩
end Lw
open PySem PySem.W PyProof.Rows
set_option maxRecDepth 100000 in
set_option maxHeartbeats 0 in
theorem PySem.Challenge.cw_relume_k07_conditions_solved_holds : PySem.Challenge.rw_relume_k07_conditions_solved.Holds := by
  w_on; o_law; k_head; (case hw => w_witness2)
  k_fill
  refine Lw.walk (l := PySem.Challenge.rw_relume_k07_conditions_solved) rfl rfl (fun w h Y => PySem.W.kIn_of Y) ?F
  case F =>
    intro w mg fa h KX G hmg
    refine' Lw.all_mk KX G hmg ?q1_Tableau ?q2_Tableau ?q3_Tableau ?q4_Tableau ?q5_Tableau ?q6_Tableau ?q7_Tableau ?n_Tableau_columns ?n_Tableau_size ?n_Tableau_rows ?n_Tableau_basis ?n_Tableau_scale ?n_Tableau_costs ?a0 ?l0 ?c0 ?k0 ?a1 ?i1 ?l1 ?c1 ?k1 ?a2 ?i2 ?l2 ?c2 ?k2 ?a3 ?i3 ?l3 ?c3 ?k3 ?a4 ?i4 ?l4 ?c4 ?k4 ?a5 ?i5 ?l5 ?c5 ?k5 ?a6 ?i6 ?l6 ?c6 ?k6 ?a7 ?i7 ?l7 ?c7 ?k7 ?a8 ?i8 ?l8 ?c8 ?k8 ?a9 ?l9 ?c9 ?k9 ?a10 ?l10 ?c10 ?k10 ?a11 ?l11 ?c11 ?k11 ?a12 ?l12 ?c12 ?k12 ?a13 ?l13 ?c13 ?k13 ?a14 ?l14 ?c14 ?k14 ?a15 ?l15 ?c15 ?k15 ?a16 ?l16 ?c16 ?k16 ?a17 ?l17 ?c17 ?k17 ?a18 ?l18 ?c18 ?k18 ?a19 ?l19 ?c19 ?k19 ?a20 ?l20 ?c20 ?k20 ?a21 ?l21 ?c21 ?k21 ?a22 ?l22 ?c22 ?k22 ?a23 ?l23 ?c23 ?k23 ?a24 ?l24 ?c24 ?k24 ?a25 ?l25 ?c25 ?k25 ?a26 ?l26 ?c26 ?k26 ?a27 ?l27 ?c27 ?k27 ?z_ValueError ?z_abs ?z_all ?z_any ?z_bool ?z_enumerate ?z_int ?z_isinstance ?z_len ?z_list ?z_min ?z_range ?z_repr ?z_sum ?z_tuple ?z_zip ?v_gcd ?g_LightError ?x_LightError ?k_LightError ?b_LightError ?t_LightError ?h_LightError ?g_BadNet ?x_BadNet ?k_BadNet ?b_BadNet ?t_BadNet ?h_BadNet ?g_OutOfRange ?x_OutOfRange ?k_OutOfRange ?b_OutOfRange ?t_OutOfRange ?h_OutOfRange ?e1_OutOfRange ?e2_OutOfRange ?e3_OutOfRange ?e4_OutOfRange ?e5_OutOfRange ?e6_OutOfRange ?e7_OutOfRange ?s_OutOfRange_BadNet ?n_OutOfRange_BadNet ?s_OutOfRange_LightError ?s_OutOfRange_ValueError
    (case q1_Tableau => k_is)
    (case q2_Tableau => k_is)
    (case q3_Tableau => k_is)
    (case q4_Tableau => k_is)
    (case q5_Tableau => k_is)
    (case q6_Tableau => k_is)
    (case q7_Tableau => k_is)
    (case n_Tableau_columns => k_is)
    (case n_Tableau_size => k_is)
    (case n_Tableau_rows => k_is)
    (case n_Tableau_basis => k_is)
    (case n_Tableau_scale => k_is)
    (case n_Tableau_costs => k_is)
    (case a0 => k_is)
    (case l0 => k_is)
    (case c0 => k_is)
    (case k0 => k_is)
    (case a1 => k_is)
    (case i1 => k_is)
    (case l1 => k_is)
    (case c1 => k_is)
    (case k1 => k_is)
    (case a2 => k_is)
    (case i2 => k_is)
    (case l2 => k_is)
    (case c2 => k_is)
    (case k2 => k_is)
    (case a3 => k_is)
    (case i3 => k_is)
    (case l3 => k_is)
    (case c3 => k_is)
    (case k3 => k_is)
    (case a4 => k_is)
    (case i4 => k_is)
    (case l4 => k_is)
    (case c4 => k_is)
    (case k4 => k_is)
    (case a5 => k_is)
    (case i5 => k_is)
    (case l5 => k_is)
    (case c5 => k_is)
    (case k5 => k_is)
    (case a6 => k_is)
    (case i6 => k_is)
    (case l6 => k_is)
    (case c6 => k_is)
    (case k6 => k_is)
    (case a7 => k_is)
    (case i7 => k_is)
    (case l7 => k_is)
    (case c7 => k_is)
    (case k7 => k_is)
    (case a8 => k_is)
    (case i8 => k_is)
    (case l8 => k_is)
    (case c8 => k_is)
    (case k8 => k_is)
    (case a9 => k_is)
    (case l9 => k_is)
    (case c9 => k_is)
    (case k9 => k_is)
    (case a10 => k_is)
    (case l10 => k_is)
    (case c10 => k_is)
    (case k10 => k_is)
    (case a11 => k_is)
    (case l11 => k_is)
    (case c11 => k_is)
    (case k11 => k_is)
    (case a12 => k_is)
    (case l12 => k_is)
    (case c12 => k_is)
    (case k12 => k_is)
    (case a13 => k_is)
    (case l13 => k_is)
    (case c13 => k_is)
    (case k13 => k_is)
    (case a14 => k_is)
    (case l14 => k_is)
    (case c14 => k_is)
    (case k14 => k_is)
    (case a15 => k_is)
    (case l15 => k_is)
    (case c15 => k_is)
    (case k15 => k_is)
    (case a16 => k_is)
    (case l16 => k_is)
    (case c16 => k_is)
    (case k16 => k_is)
    (case a17 => k_is)
    (case l17 => k_is)
    (case c17 => k_is)
    (case k17 => k_is)
    (case a18 => k_is)
    (case l18 => k_is)
    (case c18 => k_is)
    (case k18 => k_is)
    (case a19 => k_is)
    (case l19 => k_is)
    (case c19 => k_is)
    (case k19 => k_is)
    (case a20 => k_is)
    (case l20 => k_is)
    (case c20 => k_is)
    (case k20 => k_is)
    (case a21 => k_is)
    (case l21 => k_is)
    (case c21 => k_is)
    (case k21 => k_is)
    (case a22 => k_is)
    (case l22 => k_is)
    (case c22 => k_is)
    (case k22 => k_is)
    (case a23 => k_is)
    (case l23 => k_is)
    (case c23 => k_is)
    (case k23 => k_is)
    (case a24 => k_is)
    (case l24 => k_is)
    (case c24 => k_is)
    (case k24 => k_is)
    (case a25 => k_is)
    (case l25 => k_is)
    (case c25 => k_is)
    (case k25 => k_is)
    (case a26 => k_is)
    (case l26 => k_is)
    (case c26 => k_is)
    (case k26 => k_is)
    (case a27 => k_is)
    (case l27 => k_is)
    (case c27 => k_is)
    (case k27 => k_is)
    (case z_ValueError => k_is)
    (case z_abs => k_is)
    (case z_all => k_is)
    (case z_any => k_is)
    (case z_bool => k_is)
    (case z_enumerate => k_is)
    (case z_int => k_is)
    (case z_isinstance => k_is)
    (case z_len => k_is)
    (case z_list => k_is)
    (case z_min => k_is)
    (case z_range => k_is)
    (case z_repr => k_is)
    (case z_sum => k_is)
    (case z_tuple => k_is)
    (case z_zip => k_is)
    (case v_gcd => k_is)
    (case g_LightError => k_is)
    (case x_LightError => k_exc)
    (case k_LightError => k_is)
    (case b_LightError => k_is)
    (case t_LightError => k_is)
    (case h_LightError => k_is)
    (case g_BadNet => k_is)
    (case x_BadNet => k_exc)
    (case k_BadNet => k_is)
    (case b_BadNet => k_is)
    (case t_BadNet => k_is)
    (case h_BadNet => k_is)
    (case g_OutOfRange => k_is)
    (case x_OutOfRange => k_exc)
    (case k_OutOfRange => k_is)
    (case b_OutOfRange => k_is)
    (case t_OutOfRange => k_is)
    (case h_OutOfRange => k_is)
    (case e1_OutOfRange => k_is)
    (case e2_OutOfRange => k_is)
    (case e3_OutOfRange => k_is)
    (case e4_OutOfRange => k_is)
    (case e5_OutOfRange => k_is)
    (case e6_OutOfRange => k_is)
    (case e7_OutOfRange => k_is)
    (case s_OutOfRange_BadNet => k_is)
    (case n_OutOfRange_BadNet => decide)
    (case s_OutOfRange_LightError => k_is)
    (case s_OutOfRange_ValueError => k_is)
