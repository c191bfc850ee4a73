import PyProof.Rows.All
import Wide.All
import OpenK.AllK
import Wide.FinOn
import HandS.ForMost
import HandS.ForExc
import HandS.Walk
import HandS.Gcd
import HandS.Wide
import HandS.SortInts
import HandS.IsInst
import HandS.TupLe
import HandS.Rev
import HandS.Conv
import KE.GoesEnum
import PyProof.ReprRoads
import HandS.Deep
import HandS.Dict
import PySem.Challenge.RW_relume_k04_conditions_of_islands
set_option Elab.async false
set_option linter.all false
/-! A1: plain data: how a computation ends, what is reckoned, kinds of values. No heap. -/
namespace Tx
open PySem

abbrev D := PyData

/-- how a computation ends: a value, an exception of the program (by number), or nothing that is served -/
inductive R (α : Type) where
  | ok (a : α)
  | ex (c : Nat)
  | no

namespace R
variable {α β γ : Type}
def bind (x : R α) (f : α → R β) : R β :=
  match x with
  | .ok a => f a
  | .ex c => .ex c
  | .no => .no
def map (f : α → β) (x : R α) : R β :=
  match x with
  | .ok a => .ok (f a)
  | .ex c => .ex c
  | .no => .no
@[simp] theorem ok_bind (a : α) (f : α → R β) : (R.ok a).bind f = f a := rfl
@[simp] theorem ex_bind (c : Nat) (f : α → R β) : (R.ex c : R α).bind f = .ex c := rfl
@[simp] theorem no_bind (f : α → R β) : (R.no : R α).bind f = .no := rfl
@[simp] theorem ok_map (a : α) (f : α → β) : (R.ok a).map f = .ok (f a) := rfl
@[simp] theorem ex_map (c : Nat) (f : α → β) : (R.ex c : R α).map f = .ex c := rfl
@[simp] theorem no_map (f : α → β) : (R.no : R α).map f = .no := rfl
theorem bind_assoc (x : R α) (f : α → R β) (g : β → R γ) : (x.bind f).bind g = x.bind fun a => (f a).bind g := by cases x <;> rfl
theorem map_bind (x : R α) (f : α → β) (g : β → R γ) : (x.map f).bind g = x.bind fun a => g (f a) := by cases x <;> rfl
theorem bind_map (x : R α) (f : α → R β) (g : β → γ) : (x.bind f).map g = x.bind fun a => (f a).map g := by cases x <;> rfl
theorem map_map (x : R α) (f : α → β) (g : β → γ) : (x.map f).map g = x.map fun a => g (f a) := by cases x <;> rfl
theorem map_id' (x : R α) : (x.map fun a => a) = x := by cases x <;> rfl
theorem bind_eq_ok {x : R α} {f : α → R β} {b : β} : x.bind f = .ok b ↔ ∃ a, x = .ok a ∧ f a = .ok b := by
  cases x with
  | ok a => exact ⟨(fun h => ⟨a, rfl, h⟩), (fun ⟨a', e, h⟩ => by cases e; exact h)⟩
  | ex c => exact ⟨(fun h => by cases h), (fun ⟨a', e, h⟩ => by cases e)⟩
  | no => exact ⟨(fun h => by cases h), (fun ⟨a', e, h⟩ => by cases e)⟩
theorem bind_congr {x : R α} {f g : α → R β} (h : ∀ a, x = .ok a → f a = g a) : x.bind f = x.bind g := by
  cases x with
  | ok a => exact h a rfl
  | ex c => rfl
  | no => rfl
theorem bind_of {x : R α} {a : α} (h : x = .ok a) (f : α → R β) : x.bind f = f a := by rw [h]; rfl
end R

/-! ### kinds of values -/
class En (α : Type) where
  en : α → D
open En
/-- a tuple of any length -/
structure Tu (α : Type) where
  l : List α
  deriving DecidableEq
structure T3 (α β γ : Type) where
  a : α
  b : β
  c : γ
  deriving DecidableEq
structure T4 (α β γ δ : Type) where
  a : α
  b : β
  c : γ
  d : δ
  deriving DecidableEq
structure T5 (α β γ δ ε : Type) where
  a : α
  b : β
  c : γ
  d : δ
  e : ε
  deriving DecidableEq
/-- a dict, its pairs in order -/
structure Dc (κ α : Type) where
  l : List (κ × α)
  deriving DecidableEq
/-- an exception that is handled, by its number -/
structure Exn where
  n : Nat
  deriving DecidableEq
instance : En Int := ⟨.int⟩
instance : En Bool := ⟨.bool⟩
instance : En Str := ⟨.str⟩
instance : En Unit := ⟨fun _ => .none⟩
instance : En D := ⟨id⟩
instance {α : Type} [En α] : En (List α) := ⟨fun l => .list (l.map en)⟩
instance {α : Type} [En α] : En (Tu α) := ⟨fun l => .tuple (l.l.map en)⟩
instance {α β : Type} [En α] [En β] : En (α × β) := ⟨fun x => .tuple [en x.1, en x.2]⟩
instance {α β γ : Type} [En α] [En β] [En γ] : En (T3 α β γ) := ⟨fun x => .tuple [en x.a, en x.b, en x.c]⟩
instance {α β γ δ : Type} [En α] [En β] [En γ] [En δ] : En (T4 α β γ δ) := ⟨fun x => .tuple [en x.a, en x.b, en x.c, en x.d]⟩
instance {α β γ δ ε : Type} [En α] [En β] [En γ] [En δ] [En ε] : En (T5 α β γ δ ε) := ⟨fun x => .tuple [en x.a, en x.b, en x.c, en x.d, en x.e]⟩
instance {α : Type} [En α] : En (Option α) := ⟨fun x => match x with | none => .none | some a => en a⟩
instance {κ α : Type} [En κ] [En α] : En (Dc κ α) := ⟨fun x => .dict (x.l.map fun p => (en p.1, en p.2))⟩
instance : En Exn := ⟨fun x => .dict [(.list [], .int x.n)]⟩
/-- an instance's data: the class's name, the attributes -/
def insD (cn : Str) (fs : List (D × D)) : D := .dict ((.dict [], .str cn) :: fs)

/-- a scalar: what it is does not hang on the heap -/
def scD : D → Bool
  | .none | .bool _ | .int _ | .str _ => true
  | _ => false
class Sc (α : Type) [En α] : Prop where
  sc : ∀ a : α, scD (en a) = true
instance : Sc Int := ⟨fun _ => rfl⟩
instance : Sc Bool := ⟨fun _ => rfl⟩
instance : Sc Str := ⟨fun _ => rfl⟩
instance : Sc Unit := ⟨fun _ => rfl⟩
instance {α : Type} [En α] [Sc α] : Sc (Option α) := ⟨fun a => by cases a with | none => rfl | some a => exact Sc.sc a⟩

/-- what of a value is new, and known to nobody else -/
inductive Sh where
  | frz
  | lst (s : Sh)
  | tup (s : Sh)
  | ins (cn : Str) (fs : List (Str × Sh))
  | dic (s : Sh)

/-- all that is not new is scalar -/
inductive Gr : Sh → D → Prop
  | sc {s : Sh} {d : D} : scD d = true → Gr s d
  | lst {s : Sh} {ds : List D} : (∀ d ∈ ds, Gr s d) → Gr (.lst s) (.list ds)
  | tup {s : Sh} {ds : List D} : (∀ d ∈ ds, Gr s d) → Gr (.tup s) (.tuple ds)
class GrT (s : Sh) (α : Type) [En α] : Prop where
  gr : ∀ a : α, Gr s (en a)
instance {s : Sh} {α : Type} [En α] [Sc α] : GrT s α := ⟨fun a => .sc (Sc.sc a)⟩
instance {s : Sh} {α : Type} [En α] [GrT s α] : GrT (.lst s) (List α) := ⟨fun a => .lst fun d h => by
  obtain ⟨x, _, rfl⟩ := List.mem_map.mp h
  exact GrT.gr x⟩
instance {s : Sh} {α : Type} [En α] [GrT s α] : GrT (.tup s) (Tu α) := ⟨fun a => .tup fun d h => by
  obtain ⟨x, _, rfl⟩ := List.mem_map.mp h
  exact GrT.gr x⟩
instance {s : Sh} {α β : Type} [En α] [GrT s α] [En β] [GrT s β] : GrT (.tup s) (α × β) := ⟨fun a => .tup fun d h => by
  rcases List.mem_cons.mp h with rfl | h
  · exact GrT.gr a.1
  · rcases List.mem_cons.mp h with rfl | h
    · exact GrT.gr a.2
    · cases h⟩
instance {s : Sh} {α β γ : Type} [En α] [GrT s α] [En β] [GrT s β] [En γ] [GrT s γ] : GrT (.tup s) (T3 α β γ) := ⟨fun a => .tup fun d h => by
  rcases List.mem_cons.mp h with rfl | h
  · exact GrT.gr a.a
  · rcases List.mem_cons.mp h with rfl | h
    · exact GrT.gr a.b
    · rcases List.mem_cons.mp h with rfl | h
      · exact GrT.gr a.c
      · cases h⟩

/-! ### operators -/
def big : Nat := 16000000
def mulR (i j : Int) : R Int := if ((-(2 ^ 64) < i ∧ i < 2 ^ 64) ∨ (-(2 ^ 64) < j ∧ j < 2 ^ 64)) ∨ i.natAbs.log2 + j.natAbs.log2 < 1000000 then .ok (i * j) else .no
def divR (i j : Int) : R Int := if j ≠ 0 ∧ j.natAbs < 1073741824 ∨ 0 < j ∧ j.natAbs.log2 < 9000 then .ok (i.fdiv j) else .no
def modR (i j : Int) : R Int := if j ≠ 0 then .ok (i.fmod j) else .no
def powR (i j : Int) : R Int := if 0 ≤ j ∧ j ≤ 1000000 ∧ i.natAbs < 2 ^ 64 then .ok (i ^ j.toNat) else .no
/-- the place that an index names -/
def ixAt (n : Nat) (i : Int) : Option Nat := if 0 ≤ i then (if i < n then some i.toNat else none) else if -(n : Int) ≤ i then some (i + n).toNat else none
def ixR {α : Type} (xs : List α) (i : Int) : R α :=
  match ixAt xs.length i with
  | some k => (match xs[k]? with
    | some d => .ok d
    | none => .no)
  | none => .no
def putR {α : Type} (xs : List α) (i : Int) (a : α) : R (List α) :=
  match ixAt xs.length i with
  | some k => .ok (xs.set k a)
  | none => .no
def catR {α : Type} (xs ys : List α) : R (List α) := if xs.length + ys.length ≤ big then .ok (xs ++ ys) else .no
def repR {α : Type} (xs : List α) (k : Int) : R (List α) := if -(2 ^ 63) ≤ k ∧ k < 2 ^ 63 ∧ xs.length * k.toNat ≤ big then .ok (List.replicate k.toNat xs).flatten else .no
def appR {α : Type} (xs : List α) (a : α) : R (List α) := if xs.length < big then .ok (xs ++ [a]) else .no
def sIxV (n d : Nat) : Option Int → Nat
  | none => d
  | some i => if i < 0 then (i + n).toNat else min i.toNat n
def cutL {α : Type} (xs : List α) (lo hi : Option Int) : List α := (xs.drop (sIxV xs.length 0 lo)).take (sIxV xs.length xs.length hi - sIxV xs.length 0 lo)
/-- the value of an option that is told to be there -/
def unO {α : Type} : Option α → R α
  | some a => .ok a
  | none => .no
def absI (i : Int) : Int := if i < 0 then -i else i
def max2 (i j : Int) : Int := if j > i then j else i
def min2 (i j : Int) : Int := if j < i then j else i
def insI (i : Int) : List Int → List Int
  | [] => [i]
  | j :: r => if i ≤ j then i :: j :: r else j :: insI i r
def sortI : List Int → List Int
  | [] => []
  | i :: r => insI i (sortI r)
def gcdI (a b : Int) : Int := ((Nat.gcd a.natAbs b.natAbs : Nat) : Int)
def rangeI (lo hi : Int) : List Int := (List.range (hi - lo).toNat).map fun k => lo + (k : Nat)
def rng1 (j : Int) : R (List Int) := if -(2 ^ 62) ≤ j ∧ j ≤ big then .ok (rangeI 0 j) else .no
def rng2 (i j : Int) : R (List Int) := if -(2 ^ 62) ≤ i ∧ i < 2 ^ 62 ∧ -(2 ^ 62) ≤ j ∧ j < 2 ^ 62 ∧ j - i ≤ big then .ok (rangeI i j) else .no
def enumL {α : Type} : Nat → List α → List (Int × α)
  | _, [] => []
  | i, d :: ds => ((i : Int), d) :: enumL (i + 1) ds
/-- equality of what may be compared -/
def okD (d : D) : Bool := d.canLay0 && decide (d.depth ≤ 64)
def eqD : D → D → R Bool
  | .str x, .str y => .ok (decide (x = y))
  | x, y => if okD x && okD y then .ok (PyData.eqv x y) else .no
def flatD : D → Bool
  | .list _ | .tuple _ | .dict _ => false
  | _ => true
/-- equality of flat data -/
def eqF : D → D → Bool
  | .none, .none => true
  | .bool a, .bool b => a == b
  | .bool a, .int j => (if a then 1 else 0) == j
  | .int i, .bool b => i == (if b then 1 else 0)
  | .int i, .int j => i == j
  | .str x, .str y => decide (x = y)
  | _, _ => false
def reprR (d : D) : R Str := if d.showable && decide (d.depth ≤ 64) && decide (d.shown.length ≤ sizeLine) && okD d && !flatD d then .ok d.shown else .no

/-! ### control -/
/-- both must be so -/
def andR (a : R Bool) (b : R Bool) : R Bool := a.bind fun c => match c with
  | true => b
  | false => .ok false
def orR (a : R Bool) (b : R Bool) : R Bool := a.bind fun c => match c with
  | true => .ok true
  | false => b
def iteR {α : Type} (t : R Bool) (a b : R α) : R α := t.bind fun c => if c = true then a else b
def mapR {α β : Type} (f : α → R β) : List α → R (List β)
  | [] => .ok []
  | x :: xs => (f x).bind fun y => (mapR f xs).bind fun ys => .ok (y :: ys)
/-- a comprehension with a test -/
def fmapR {α β : Type} (t : α → R Bool) (f : α → R β) : List α → R (List β)
  | [] => .ok []
  | x :: xs => (t x).bind fun c => match c with
    | true => (f x).bind fun y => (fmapR t f xs).bind fun ys => .ok (y :: ys)
    | false => fmapR t f xs
/-- a for without break and return -/
def forR {α S : Type} (f : α → S → R S) : List α → S → R S
  | [], s => .ok s
  | x :: xs, s => (f x s).bind fun s' => forR f xs s'
/-- how a turn of a loop ends -/
inductive Lc (S β : Type) where
  | nx (s : S)
  | bk (s : S)
  | rt (b : β)
def lcGo {S β : Type} (k : S → R (Sum S β)) : Lc S β → R (Sum S β)
  | .nx s => k s
  | .bk s => .ok (.inl s)
  | .rt b => .ok (.inr b)
/-- a loop with break or return -/
def loopR {α S β : Type} (f : α → S → R (Lc S β)) : List α → S → R (Sum S β)
  | [], s => .ok (.inl s)
  | x :: xs, s => (f x s).bind (lcGo (loopR f xs))
def thenK {S β : Type} (k : S → R β) : Sum S β → R β
  | .inl s => k s
  | .inr b => .ok b
/-- what follows a block that may have returned -/
def thenR {S β : Type} (r : R (Sum S β)) (k : S → R β) : R β := r.bind (thenK k)
@[simp] theorem thenR_l {S β : Type} (s : S) (k : S → R β) : thenR (.ok (.inl s)) k = k s := rfl
@[simp] theorem thenR_r {S β : Type} (b : β) (k : S → R β) : thenR (.ok (.inr b)) k = .ok b := rfl
def whileN {S : Type} (t : S → R Bool) (f : S → R S) : Nat → S → R S
  | 0, _ => .no
  | n + 1, s => (t s).bind fun c => match c with
    | true => (f s).bind fun s' => whileN t f n s'
    | false => .ok s
def wloopN {S β : Type} (t : S → R Bool) (f : S → R (Lc S β)) : Nat → S → R (Sum S β)
  | 0, _ => .no
  | n + 1, s => (t s).bind fun c => match c with
    | true => (f s).bind (lcGo (wloopN t f n))
    | false => .ok (.inl s)
open Classical in
/-- a while, by any number of turns that is enough -/
noncomputable def whileR {S : Type} (t : S → R Bool) (f : S → R S) (s : S) : R S :=
  if h : ∃ n, ∃ s', whileN t f n s = .ok s' then whileN t f h.choose s else
  if h : ∃ n, ∃ c, whileN t f n s = .ex c then whileN t f h.choose s else .no
open Classical in
noncomputable def wloopR {S β : Type} (t : S → R Bool) (f : S → R (Lc S β)) (s : S) : R (Sum S β) :=
  if h : ∃ n, ∃ s', wloopN t f n s = .ok s' then wloopN t f h.choose s else
  if h : ∃ n, ∃ c, wloopN t f n s = .ex c then wloopN t f h.choose s else .no
theorem whileN_mono {S : Type} {t : S → R Bool} {f : S → R S} : ∀ {n m : Nat} {s s' : S}, whileN t f n s = .ok s' → n ≤ m → whileN t f m s = .ok s'
  | 0, _, _, _, h, _ => by cases h
  | n + 1, 0, _, _, _, hl => absurd hl (by omega)
  | n + 1, m + 1, s, s', h, hl => by
    unfold whileN at h ⊢
    cases ht : t s with
    | ok c =>
      rw [ht] at h
      cases c with
      | true =>
        have h : (f s).bind (fun s' => whileN t f n s') = R.ok s' := h
        obtain ⟨s1, h1, h2⟩ := R.bind_eq_ok.mp h
        show (f s).bind _ = _
        rw [h1]
        exact whileN_mono h2 (by omega)
      | false => exact h
    | ex c => rw [ht] at h; cases h
    | no => rw [ht] at h; cases h
theorem whileR_of {S : Type} {t : S → R Bool} {f : S → R S} {n : Nat} {s s' : S} (h : whileN t f n s = .ok s') : whileR t f s = .ok s' := by
  unfold whileR
  have hx : ∃ n, ∃ s', whileN t f n s = .ok s' := ⟨n, s', h⟩
  rw [dif_pos hx]
  obtain ⟨s2, h2⟩ := hx.choose_spec
  have a := whileN_mono h (Nat.le_max_left n hx.choose)
  have b := whileN_mono h2 (Nat.le_max_right n hx.choose)
  rw [h2, ← b, a]
theorem whileR_some {S : Type} (t : S → R Bool) (f : S → R S) (s : S) : ∃ n, whileR t f s = whileN t f n s := by
  unfold whileR
  split
  · exact ⟨_, rfl⟩
  · split
    · exact ⟨_, rfl⟩
    · exact ⟨0, rfl⟩
theorem wloopN_mono {S β : Type} {t : S → R Bool} {f : S → R (Lc S β)} : ∀ {n m : Nat} {s : S} {s' : Sum S β}, wloopN t f n s = .ok s' → n ≤ m → wloopN t f m s = .ok s'
  | 0, _, _, _, h, _ => by cases h
  | n + 1, 0, _, _, _, hl => absurd hl (by omega)
  | n + 1, m + 1, s, s', h, hl => by
    unfold wloopN at h ⊢
    cases ht : t s with
    | ok c =>
      rw [ht] at h
      cases c with
      | true =>
        have h : (f s).bind _ = R.ok s' := h
        obtain ⟨r, h1, h2⟩ := R.bind_eq_ok.mp h
        show (f s).bind _ = _
        rw [h1]
        cases r with
        | nx s1 => exact wloopN_mono h2 (by omega)
        | bk s1 => exact h2
        | rt b => exact h2
      | false => exact h
    | ex c => rw [ht] at h; cases h
    | no => rw [ht] at h; cases h
theorem wloopR_of {S β : Type} {t : S → R Bool} {f : S → R (Lc S β)} {n : Nat} {s : S} {s' : Sum S β} (h : wloopN t f n s = .ok s') : wloopR t f s = .ok s' := by
  unfold wloopR
  have hx : ∃ n, ∃ s', wloopN t f n s = .ok s' := ⟨n, s', h⟩
  rw [dif_pos hx]
  obtain ⟨s2, h2⟩ := hx.choose_spec
  have a := wloopN_mono h (Nat.le_max_left n hx.choose)
  have b := wloopN_mono h2 (Nat.le_max_right n hx.choose)
  rw [h2, ← b, a]
theorem wloopR_some {S β : Type} (t : S → R Bool) (f : S → R (Lc S β)) (s : S) : ∃ n, wloopR t f s = wloopN t f n s := by
  unfold wloopR
  split
  · exact ⟨_, rfl⟩
  · split
    · exact ⟨_, rfl⟩
    · exact ⟨0, rfl⟩
end Tx

set_option Elab.async false
set_option linter.all false
set_option maxRecDepth 100000
set_option maxHeartbeats 4000000
/-! A2: data in the heap. -/
namespace Tx
open PySem L2 En

/-- the class whose instances are data; the exception that is being handled: its object, its number -/
structure Rc where
  cl : Str → Option Addr
  xa : Option (Addr × Nat)
/-- .. and the classes of the exceptions by number -/
structure Vp where
  rc : Rc
  ea : Nat → Addr
/-- a list of xs: tracked, locked, or exactly so in the written part -/
def SqR (K : PySem.W.Frag) (H : Hp) (a : Addr) (xs : List V) : Prop :=
  Rd H a (.lst xs) ∨ ∃ (its : Array Value) (n : Nat), K.lookup a = some { cls := .type "list", data := .seq its n } ∧ its.size ≤ sizeLine ∧ Vals xs its.toList

/-- a key of a dict as data -/
def keyD : Key → D
  | .inl i => .int i
  | .inr x => .str x
mutual
inductive Rp (K : PySem.W.Frag) (C : Rc) (H : Hp) : V → D → Prop
  | non : Rp K C H .non .none
  | bl (b : Bool) : Rp K C H (.bl b) (.bool b)
  | int (i : Int) : Rp K C H (.int i) (.int i)
  | str (x : Str) : Rp K C H (.str x) (.str x)
  | lst {a : Addr} {xs : List V} {ds : List D} : SqR K H a xs → RpA K C H xs ds → Rp K C H (.ref a) (.list ds)
  | tup {a : Addr} {xs : List V} {ds : List D} : SqT K H a xs → RpA K C H xs ds → Rp K C H (.ref a) (.tuple ds)
  | obj {a c dx : Addr} {cn : Str} {fs : List (Str × V)} {kvs : List (D × D)} : C.cl cn = some c → H a = some (.ins c dx fs) → RpF K C H fs kvs → Rp K C H (.ref a) (.dict ((.dict [], .str cn) :: kvs))
  | dic {a : Addr} {fs : List (Key × V)} {kvs : List (D × D)} : Rd H a (.dK fs) → RpK K C H fs kvs → Rp K C H (.ref a) (.dict kvs)
  | exn {a : Addr} {n : Nat} : C.xa = some (a, n) → Rp K C H (.ref a) (.dict [(.list [], .int n)])
inductive RpA (K : PySem.W.Frag) (C : Rc) (H : Hp) : List V → List D → Prop
  | nil : RpA K C H [] []
  | cons {v : V} {vs : List V} {d : D} {ds : List D} : Rp K C H v d → RpA K C H vs ds → RpA K C H (v :: vs) (d :: ds)
inductive RpF (K : PySem.W.Frag) (C : Rc) (H : Hp) : List (Str × V) → List (D × D) → Prop
  | nil : RpF K C H [] []
  | cons {f : Str} {v : V} {fs : List (Str × V)} {d : D} {ds : List (D × D)} : Rp K C H v d → RpF K C H fs ds → RpF K C H ((f, v) :: fs) ((.str f, d) :: ds)
inductive RpK (K : PySem.W.Frag) (C : Rc) (H : Hp) : List (Key × V) → List (D × D) → Prop
  | nil : RpK K C H [] []
  | cons {k : Key} {v : V} {fs : List (Key × V)} {d : D} {ds : List (D × D)} : Rp K C H v d → RpK K C H fs ds → RpK K C H ((k, v) :: fs) ((keyD k, d) :: ds)
end

theorem rd_mono {H H' : Hp} {a : Addr} {u : HO} (e : Same H H') (h : Rd H a u) : Rd H' a u := by
  rcases h with h | ⟨o, h⟩
  · exact .inl (e a _ h)
  · exact .inr ⟨o, e a _ h⟩
theorem sqr_mono {K : PySem.W.Frag} {H H' : Hp} {a : Addr} {xs : List V} (e : Same H H') (h : SqR K H a xs) : SqR K H' a xs := by
  rcases h with h | h
  · exact .inl (rd_mono e h)
  · exact .inr h
theorem sqr_l {K : PySem.W.Frag} {H : Hp} {a : Addr} {xs : List V} (h : SqR K H a xs) : SqL K H a xs := by
  rcases h with h | ⟨its, n, h1, h2, h3⟩
  · exact .inl h
  · exact .inr ⟨_, its, n, h1, rfl, rfl, rfl, h2, h3⟩
theorem sqt_mono {K : PySem.W.Frag} {H H' : Hp} {a : Addr} {xs : List V} (e : Same H H') (h : SqT K H a xs) : SqT K H' a xs := by
  rcases h with h | h
  · exact .inl (rd_mono e h)
  · exact .inr h

section
variable {K : PySem.W.Frag} {C : Rc} {H H' : Hp}
mutual
theorem Rp.mono (e : Same H H') : ∀ (d : D) (v : V), Rp K C H v d → Rp K C H' v d
  | .none, _, h => by cases h; exact .non
  | .bool b, _, h => by cases h; exact .bl b
  | .int i, _, h => by cases h; exact .int i
  | .str x, _, h => by cases h; exact .str x
  | .list ds, _, h => by
    cases h with
    | lst h1 h2 => exact .lst (sqr_mono e h1) (RpA.mono e ds _ h2)
  | .tuple ds, _, h => by
    cases h with
    | tup h1 h2 => exact .tup (sqt_mono e h1) (RpA.mono e ds _ h2)
  | .dict kvs, _, h => by
    cases h with
    | obj h0 h1 h2 => exact .obj h0 (e _ _ h1) (RpF.mono e _ _ h2)
    | dic h1 h2 => exact .dic (rd_mono e h1) (RpK.mono e kvs _ h2)
    | exn h1 => exact .exn h1
theorem RpA.mono (e : Same H H') : ∀ (ds : List D) (vs : List V), RpA K C H vs ds → RpA K C H' vs ds
  | [], _, h => by cases h; exact .nil
  | d :: ds, _, h => by
    cases h with
    | cons h1 h2 => exact .cons (Rp.mono e d _ h1) (RpA.mono e ds _ h2)
theorem RpF.mono (e : Same H H') : ∀ (ds : List (D × D)) (vs : List (Str × V)), RpF K C H vs ds → RpF K C H' vs ds
  | [], _, h => by cases h; exact .nil
  | (k, d) :: ds, _, h => by
    cases h with
    | cons h1 h2 => exact .cons (Rp.mono e d _ h1) (RpF.mono e ds _ h2)
theorem RpK.mono (e : Same H H') : ∀ (ds : List (D × D)) (vs : List (Key × V)), RpK K C H vs ds → RpK K C H' vs ds
  | [], _, h => by cases h; exact .nil
  | (k, d) :: ds, _, h => by
    cases h with
    | cons h1 h2 => exact .cons (Rp.mono e d _ h1) (RpK.mono e ds _ h2)
end
theorem Rp.up {v : V} {d : D} (h : Rp K C H v d) (e : Same H H') : Rp K C H' v d := Rp.mono e d v h
theorem RpA.up {v : List V} {d : List D} (h : RpA K C H v d) (e : Same H H') : RpA K C H' v d := RpA.mono e d v h
mutual
theorem Rp.dp : ∀ (d : D) (v : V), Rp K C H v d → d.canLay0 = true → Dp K H v d
  | .none, _, h, _ => by cases h; exact .non
  | .bool b, _, h, _ => by cases h; exact .bl b
  | .int i, _, h, _ => by cases h; exact .int i
  | .str x, _, h, _ => by cases h; exact .str x
  | .list ds, _, h, z => by
    cases h with
    | lst h1 h2 => exact .lst (sqr_l h1) (RpA.dp ds _ h2 (by simpa [PyData.canLay0] using z))
  | .tuple ds, _, h, z => by
    cases h with
    | tup h1 h2 => exact .tup h1 (RpA.dp ds _ h2 (by simpa [PyData.canLay0] using z))
  | .dict kvs, _, h, z => by simp [PyData.canLay0] at z
theorem RpA.dp : ∀ (ds : List D) (vs : List V), RpA K C H vs ds → PyData.canLayAll0 ds = true → DpAll K H vs ds
  | [], _, h, _ => by cases h; exact .nil
  | d :: ds, _, h, z => by
    cases h with
    | cons h1 h2 =>
      simp only [PyData.canLayAll0, Bool.and_eq_true] at z
      exact .cons (Rp.dp d _ h1 z.1) (RpA.dp ds _ h2 z.2)
end
section
variable {C' : Rc}
mutual
/-- plain data does not hang on the record -/
theorem Rp.any : ∀ (d : D) (v : V), Rp K C H v d → d.canLay0 = true → Rp K C' H v d
  | .none, _, h, _ => by cases h; exact .non
  | .bool b, _, h, _ => by cases h; exact .bl b
  | .int i, _, h, _ => by cases h; exact .int i
  | .str x, _, h, _ => by cases h; exact .str x
  | .list ds, _, h, z => by
    cases h with
    | lst h1 h2 => exact .lst h1 (RpA.any ds _ h2 (by simpa [PyData.canLay0] using z))
  | .tuple ds, _, h, z => by
    cases h with
    | tup h1 h2 => exact .tup h1 (RpA.any ds _ h2 (by simpa [PyData.canLay0] using z))
  | .dict kvs, _, h, z => by simp [PyData.canLay0] at z
theorem RpA.any : ∀ (ds : List D) (vs : List V), RpA K C H vs ds → PyData.canLayAll0 ds = true → RpA K C' H vs ds
  | [], _, h, _ => by cases h; exact .nil
  | d :: ds, _, h, z => by
    cases h with
    | cons h1 h2 =>
      simp only [PyData.canLayAll0, Bool.and_eq_true] at z
      exact .cons (Rp.any d _ h1 z.1) (RpA.any ds _ h2 z.2)
end
mutual
/-- nothing was handled, now something is -/
theorem Rp.hot (e : C'.cl = C.cl) (n : C.xa = none) : ∀ (d : D) (v : V), Rp K C H v d → Rp K C' H v d
  | .none, _, h => by cases h; exact .non
  | .bool b, _, h => by cases h; exact .bl b
  | .int i, _, h => by cases h; exact .int i
  | .str x, _, h => by cases h; exact .str x
  | .list ds, _, h => by
    cases h with
    | lst h1 h2 => exact .lst h1 (RpA.hot e n ds _ h2)
  | .tuple ds, _, h => by
    cases h with
    | tup h1 h2 => exact .tup h1 (RpA.hot e n ds _ h2)
  | .dict kvs, _, h => by
    cases h with
    | obj h0 h1 h2 => exact .obj (by rw [e]; exact h0) h1 (RpF.hot e n _ _ h2)
    | dic h1 h2 => exact .dic h1 (RpK.hot e n kvs _ h2)
    | exn h1 => rw [n] at h1; cases h1
theorem RpA.hot (e : C'.cl = C.cl) (n : C.xa = none) : ∀ (ds : List D) (vs : List V), RpA K C H vs ds → RpA K C' H vs ds
  | [], _, h => by cases h; exact .nil
  | d :: ds, _, h => by
    cases h with
    | cons h1 h2 => exact .cons (Rp.hot e n d _ h1) (RpA.hot e n ds _ h2)
theorem RpF.hot (e : C'.cl = C.cl) (n : C.xa = none) : ∀ (ds : List (D × D)) (vs : List (Str × V)), RpF K C H vs ds → RpF K C' H vs ds
  | [], _, h => by cases h; exact .nil
  | (k, d) :: ds, _, h => by
    cases h with
    | cons h1 h2 => exact .cons (Rp.hot e n d _ h1) (RpF.hot e n ds _ h2)
theorem RpK.hot (e : C'.cl = C.cl) (n : C.xa = none) : ∀ (ds : List (D × D)) (vs : List (Key × V)), RpK K C H vs ds → RpK K C' H vs ds
  | [], _, h => by cases h; exact .nil
  | (k, d) :: ds, _, h => by
    cases h with
    | cons h1 h2 => exact .cons (Rp.hot e n d _ h1) (RpK.hot e n ds _ h2)
end
end
theorem RpA.len : ∀ {vs : List V} {ds : List D}, RpA K C H vs ds → vs.length = ds.length
  | _, _, .nil => rfl
  | _, _, .cons _ t => congrArg (· + 1) (RpA.len t)
theorem RpA.get : ∀ {vs : List V} {ds : List D} {i : Nat} {d : D}, RpA K C H vs ds → ds[i]? = some d → ∃ v, vs[i]? = some v ∧ Rp K C H v d
  | _, _, _, _, .nil, e => by simp at e
  | _, _, 0, _, .cons h _, e => by simp at e; subst e; exact ⟨_, rfl, h⟩
  | _, _, i + 1, _, .cons _ t, e => by
    obtain ⟨v, h1, h2⟩ := RpA.get (i := i) t (by simpa using e)
    exact ⟨v, by simpa using h1, h2⟩
theorem RpA.getV : ∀ {vs : List V} {ds : List D} {i : Nat} {v : V}, RpA K C H vs ds → vs[i]? = some v → ∃ d, ds[i]? = some d ∧ Rp K C H v d
  | _, _, _, _, .nil, e => by simp at e
  | _, _, 0, _, .cons h _, e => by simp at e; subst e; exact ⟨_, rfl, h⟩
  | _, _, i + 1, _, .cons _ t, e => by
    obtain ⟨v, h1, h2⟩ := RpA.getV (i := i) t (by simpa using e)
    exact ⟨v, by simpa using h1, h2⟩
theorem RpA.app : ∀ {vs ws : List V} {ds es : List D}, RpA K C H vs ds → RpA K C H ws es → RpA K C H (vs ++ ws) (ds ++ es)
  | _, _, _, _, .nil, s => s
  | _, _, _, _, .cons h t, s => .cons h (RpA.app t s)
theorem RpA.set {v : V} {d : D} (r : Rp K C H v d) : ∀ {vs : List V} {ds : List D} (i : Nat), RpA K C H vs ds → RpA K C H (vs.set i v) (ds.set i d)
  | _, _, _, .nil => .nil
  | _, _, 0, .cons _ t => .cons r t
  | _, _, i + 1, .cons q t => .cons q (RpA.set r i t)
theorem RpA.take : ∀ {vs : List V} {ds : List D} (n : Nat), RpA K C H vs ds → RpA K C H (vs.take n) (ds.take n)
  | _, _, 0, _ => .nil
  | _, _, _ + 1, .nil => .nil
  | _, _, n + 1, .cons r t => .cons r (RpA.take n t)
theorem RpA.drop : ∀ {vs : List V} {ds : List D} (n : Nat), RpA K C H vs ds → RpA K C H (vs.drop n) (ds.drop n)
  | _, _, 0, r => r
  | _, _, _ + 1, .nil => .nil
  | _, _, n + 1, .cons _ t => RpA.drop n t
theorem RpA.rep {vs : List V} {ds : List D} (r : RpA K C H vs ds) : ∀ n : Nat, RpA K C H (List.replicate n vs).flatten (List.replicate n ds).flatten
  | 0 => .nil
  | n + 1 => by
    rw [List.replicate_succ, List.replicate_succ, List.flatten_cons, List.flatten_cons]
    exact RpA.app r (RpA.rep r n)
theorem RpA.ints : ∀ {ns : List Int}, RpA K C H (ns.map V.int) (ns.map PyData.int)
  | [] => .nil
  | i :: r => .cons (.int i) RpA.ints
theorem RpA.ofInts : ∀ {vs : List V} {ns : List Int}, RpA K C H vs (ns.map PyData.int) → vs = ns.map V.int
  | _, [], .nil => rfl
  | _, i :: r, .cons h t => by cases h; rw [List.map_cons, RpA.ofInts t]
theorem RpA.ofBools : ∀ {vs : List V} {ns : List Bool}, RpA K C H vs (ns.map PyData.bool) → vs = ns.map V.bl
  | _, [], .nil => rfl
  | _, i :: r, .cons h t => by cases h; rw [List.map_cons, RpA.ofBools t]
end

/-! ### the frozen part of a heap -/
structure Ext (F H F' : Hp) : Prop where
  up : Same F F'
  new : ∀ a o, F' a = some o → (∃ u, F a = some u) ∨ H a = none
theorem Ext.refl (F H : Hp) : Ext F H F := ⟨Same.refl F, fun _ o h => .inl ⟨o, h⟩⟩
theorem none_back {H H1 : Hp} (s : Same H H1) {a : Addr} (h : H1 a = none) : H a = none := by
  cases q : H a with
  | none => rfl
  | some o => rw [s a o q] at h; cases h
theorem Ext.trans {F H F1 H1 F2 : Hp} (a : Ext F H F1) (s : Same H H1) (b : Ext F1 H1 F2) : Ext F H F2 :=
  ⟨a.up.trans b.up, fun x o h => by
    rcases b.new x o h with ⟨u, z⟩ | z
    · exact a.new x u z
    · exact .inr (none_back s z)⟩
theorem Ext.at {F H H1 F1 : Hp} (s : Same H H1) (b : Ext F H1 F1) : Ext F H F1 := ⟨b.up, fun x o h => (b.new x o h).imp id fun z => none_back s z⟩
theorem Ext.one {F H : Hp} {p : Addr} {o : HO} (h : H p = none) (s : Same F H) : Ext F H (upd F p o) :=
  ⟨fun a u e => by rw [upd_ne (ne_of_none (s a u e) h)]; exact e, fun a u e => by
    by_cases q : a = p
    · subst q; exact .inr h
    · rw [upd_ne q] at e; exact .inl ⟨u, e⟩⟩
theorem same_upd {H : Hp} {p : Addr} {o : HO} (h : H p = none) : Same H (upd H p o) := fun a u e => by
  rw [upd_ne (ne_of_none e h)]; exact e
theorem same_upd2 {F H : Hp} {p : Addr} {o : HO} (s : Same F H) : Same (upd F p o) (upd H p o) := fun a u e => by
  by_cases q : a = p
  · subst q; rw [upd_same] at e ⊢; exact e
  · rw [upd_ne q] at e ⊢; exact s a u e
/-- an address that is known outside the frozen part stays outside -/
theorem Ext.out {F H F' : Hp} (x : Ext F H F') {p : Addr} {o : HO} (h : H p = some o) (f : F p = none) : F' p = none := by
  cases q : F' p with
  | none => rfl
  | some u =>
    rcases x.new p u q with ⟨z, e⟩ | e
    · rw [f] at e; cases e
    · rw [h] at e; cases e

/-! ### how a reading ends -/
def Hd {α : Type} (E : XK) (W : Vp) (H : Hp) (r : R α) (k : α → Prop) : Prop :=
  match r with
  | .ok a => k a
  | .ex c => ∀ H', Same H H' → E (.ref (W.ea c)) none H'
  | .no => False
section
variable {α β : Type} {E : XK} {W : Vp} {H H' : Hp} {r : R α} {k k' : α → Prop}
theorem hd_bind {f : α → R β} {k : β → Prop} (h : Hd E W H (r.bind f) k) : Hd E W H r fun a => Hd E W H (f a) k := by
  cases r with
  | ok a => exact h
  | ex c => exact h
  | no => exact h
theorem Hd.imp (h : Hd E W H r k) (i : ∀ a, k a → k' a) : Hd E W H r k' := by
  cases r with
  | ok a => exact i a h
  | ex c => exact h
  | no => exact h
theorem Hd.imp' (h : Hd E W H r k) (i : ∀ a, r = .ok a → k a → k' a) : Hd E W H r k' := by
  cases r with
  | ok a => exact i a rfl h
  | ex c => exact h
  | no => exact h
theorem Hd.heap (h : Hd E W H r k) (s : Same H H') : Hd E W H' r k := by
  cases r with
  | ok a => exact h
  | ex c => exact fun H2 z => h H2 (s.trans z)
  | no => exact h
end


def VPost (K : PySem.W.Frag) (W : Vp) (F H : Hp) (Q : VK) (d : D) : Prop := ∀ v H' F', Same H H' → Ext F H F' → Same F' H' → Rp K W.rc F' v d → Q v H'
/-- .. a new list -/
def NPost (K : PySem.W.Frag) (W : Vp) (F H : Hp) (Q : VK) (d : D) : Prop := ∀ p vs ds H' F', d = .list ds → Same H H' → Ext F H F' → Same F' H' → H p = none → F' p = none → H' p = some (.lst vs) → RpA K W.rc F' vs ds → Q (.ref p) H'
theorem VPost.step {K : PySem.W.Frag} {W : Vp} {F H F1 H1 : Hp} {Q : VK} {d : D} (h : VPost K W F H Q d) (s : Same H H1) (e : Ext F H F1) : VPost K W F1 H1 Q d := fun v H' F' a b c r => h v H' F' (s.trans a) (e.trans s b) c r
theorem _root_.L2.PE.wk {X : Cx} {e : Expr} {t t' : TE} (h : PE X e t) (i : ∀ σ H Q, t' σ H Q → t σ H Q) : PE X e t' := ⟨fun pins s σ H Q I q => h.run pins s σ H Q I (i σ H Q q)⟩
theorem _root_.L2.PA.wk {X : Cx} {e : List Expr} {t t' : TA} (h : PA X e t) (i : ∀ σ H Q, t' σ H Q → t σ H Q) : PA X e t' := ⟨fun p pins s σ H Q I q => h.run p pins s σ H Q I (i σ H Q q)⟩
theorem _root_.L2.PT.wk {X : Cx} {e : Expr} {t t' : TT} (h : PT X e t) (i : ∀ σ H Q, t' σ H Q → t σ H Q) : PT X e t' := ⟨fun pins s σ H Q I q => h.run pins s σ H Q I (i σ H Q q)⟩
theorem _root_.L2.PW.wk {X : Cx} {e : Expr} {t t' : TT} (h : PW X e t) (i : ∀ σ H Q, t' σ H Q → t σ H Q) : PW X e t' := ⟨fun w pins s σ H Q I q => h.run w pins s σ H Q I (i σ H Q q)⟩
theorem _root_.L2.PS.wk {X : Cx} {e : Stmt} {t t' : TS} (h : PS X e t) (i : ∀ D σ H, t' D σ H → t D σ H) : PS X e t' := ⟨fun pins s σ H D I q => h.run pins s σ H D I (i D σ H q)⟩
theorem _root_.L2.PSs.wk {X : Cx} {e : List Stmt} {t t' : TS} (h : PSs X e t) (i : ∀ D σ H, t' D σ H → t D σ H) : PSs X e t' := ⟨fun pins s σ H D I q => h.run pins s σ H D I (i D σ H q)⟩
theorem _root_.L2.PG.wk {X : Cx} {e : Expr} {t t' : TG} (h : PG X e t) (i : ∀ v σ H Q, t' v σ H Q → t v σ H Q) : PG X e t' := ⟨fun pins s σ H v u Q I r q => h.run pins s σ H v u Q I r (i v σ H Q q)⟩
theorem _root_.L2.PGs.wk {X : Cx} {e : List Expr} {t t' : TGs} (h : PGs X e t) (i : ∀ v σ H Q, t' v σ H Q → t v σ H Q) : PGs X e t' := ⟨fun pins s σ H v u Q I r q => h.run pins s σ H v u Q I r (i v σ H Q q)⟩
theorem _root_.L2.PI.wk {X : Cx} {tg e : Expr} {t t' : TI} (h : PI X tg e t) (i : ∀ σ H R, t' σ H R → t σ H R) : PI X tg e t' := ⟨fun pins s σ H R I q => h.run pins s σ H R I (i σ H R q)⟩
theorem _root_.L2.PO.wk {X : Cx} {e : Option Expr} {t t' : TO} (h : PO X e t) (i : ∀ σ H Q, t' σ H Q → t σ H Q) : PO X e t' := ⟨fun pins s σ H Q I q => h.run pins s σ H Q I (i σ H Q q)⟩
theorem _root_.L2.PTs.wk {X : Cx} {e : List Expr} {t t' : TT} (h : PTs X e t) (i : ∀ σ H Q, t' σ H Q → t σ H Q) : PTs X e t' := ⟨fun pins s σ H Q I q => h.run pins s σ H Q I (i σ H Q q)⟩
theorem big_le : big ≤ sizeLine := by decide

/-- the sizes of what lies in the heap -/
def LenOk (H : Hp) : Prop := (∀ a xs, Rd H a (.lst xs) → xs.length ≤ sizeLine) ∧ (∀ a xs, Rd H a (.tup xs) → xs.length ≤ sizeLine) ∧ ∀ a c dx fs, H a = some (.ins c dx fs) → fs.length ≤ 1000
theorem lenOk {X : Cx} {pins : List (Addr × Obj)} {σ : L2.St} {H : Hp} {s : Shared} (I : Inv X pins σ H s) : LenOk H :=
  ⟨fun a xs h => (show ObjOk X.prog X.w H s.heap a (.lst xs) from h.ok I.hok).1, fun a xs h => (show ObjOk X.prog X.w H s.heap a (.tup xs) from h.ok I.hok).1, fun a c dx fs h => (show ObjOk X.prog X.w H s.heap a (.ins c dx fs) from I.hok a _ h).2.1⟩
theorem _root_.L2.PE.wkL {X : Cx} {e : Expr} {t t' : TE} (h : PE X e t) (i : ∀ σ H Q, LenOk H → t' σ H Q → t σ H Q) : PE X e t' := ⟨fun pins s σ H Q I q => h.run pins s σ H Q I (i σ H Q (lenOk I) q)⟩
theorem _root_.L2.PS.wkL {X : Cx} {e : Stmt} {t t' : TS} (h : PS X e t) (i : ∀ D σ H, LenOk H → t' D σ H → t D σ H) : PS X e t' := ⟨fun pins s σ H D I q => h.run pins s σ H D I (i D σ H (lenOk I) q)⟩
theorem sqr_len {K : PySem.W.Frag} {H : Hp} {a : Addr} {xs : List V} (l : LenOk H) (h : SqR K H a xs) : xs.length ≤ sizeLine := by
  rcases h with h | ⟨its, n, h1, h2, h3⟩
  · exact l.1 a xs h
  · have := Vals.length h3
    simp at this
    omega
end Tx

set_option Elab.async false
set_option linter.all false
set_option maxRecDepth 100000
set_option maxHeartbeats 4000000
/-! A3: what is new and owned; the slots of a def by what they hold. -/
namespace Tx
open PySem L2 En

mutual
/-- v stands for d; the addresses fp are its own, what else it holds lies in the frozen part F -/
inductive Ow (K : PySem.W.Frag) (C : Rc) (F H : Hp) : Sh → V → D → List Addr → Prop
  | sc {s : Sh} {v : V} {d : D} : scD d = true → Rp K C F v d → Ow K C F H s v d []
  | fz {v : V} {d : D} : Rp K C F v d → Ow K C F H .frz v d []
  | lst {s : Sh} {a : Addr} {xs : List V} {ds : List D} {fp : List Addr} : H a = some (.lst xs) → OwA K C F H s xs ds fp → a ∉ fp → Ow K C F H (.lst s) (.ref a) (.list ds) (a :: fp)
  | tup {s : Sh} {a : Addr} {xs : List V} {ds : List D} {fp : List Addr} : H a = some (.tup xs) → OwA K C F H s xs ds fp → a ∉ fp → Ow K C F H (.tup s) (.ref a) (.tuple ds) (a :: fp)
  | ins {cn : Str} {c a dx : Addr} {ss : List (Str × Sh)} {fs : List (Str × V)} {kvs : List (D × D)} {fp : List Addr} : C.cl cn = some c → H a = some (.ins c dx fs) → OwF K C F H ss fs kvs fp → a ∉ fp → Ow K C F H (.ins cn ss) (.ref a) (.dict ((.dict [], .str cn) :: kvs)) (a :: fp)
  | dic {s : Sh} {a : Addr} {fs : List (Key × V)} {kvs : List (D × D)} {fp : List Addr} : H a = some (.dK fs) → OwK K C F H s fs kvs fp → a ∉ fp → Ow K C F H (.dic s) (.ref a) (.dict kvs) (a :: fp)
inductive OwA (K : PySem.W.Frag) (C : Rc) (F H : Hp) : Sh → List V → List D → List Addr → Prop
  | nil {s : Sh} : OwA K C F H s [] [] []
  | cons {s : Sh} {v : V} {d : D} {vs : List V} {ds : List D} {fp fq : List Addr} : Ow K C F H s v d fp → OwA K C F H s vs ds fq → (∀ a ∈ fp, a ∉ fq) → OwA K C F H s (v :: vs) (d :: ds) (fp ++ fq)
inductive OwF (K : PySem.W.Frag) (C : Rc) (F H : Hp) : List (Str × Sh) → List (Str × V) → List (D × D) → List Addr → Prop
  | nil : OwF K C F H [] [] [] []
  | cons {f : Str} {s : Sh} {v : V} {d : D} {ss : List (Str × Sh)} {vs : List (Str × V)} {ds : List (D × D)} {fp fq : List Addr} : Ow K C F H s v d fp → OwF K C F H ss vs ds fq → (∀ a ∈ fp, a ∉ fq) → OwF K C F H ((f, s) :: ss) ((f, v) :: vs) ((.str f, d) :: ds) (fp ++ fq)
inductive OwK (K : PySem.W.Frag) (C : Rc) (F H : Hp) : Sh → List (Key × V) → List (D × D) → List Addr → Prop
  | nil {s : Sh} : OwK K C F H s [] [] []
  | cons {k : Key} {s : Sh} {v : V} {d : D} {vs : List (Key × V)} {ds : List (D × D)} {fp fq : List Addr} : Ow K C F H s v d fp → OwK K C F H s vs ds fq → (∀ a ∈ fp, a ∉ fq) → OwK K C F H s ((k, v) :: vs) ((keyD k, d) :: ds) (fp ++ fq)
end
section
variable {K : PySem.W.Frag} {C C' : Rc} {F F' H H' : Hp} {s : Sh} {v : V} {d : D} {vs : List V} {ds : List D} {fp : List Addr}
theorem mem_l {a : Addr} {p q : List Addr} (h : a ∈ p) : a ∈ p ++ q := List.mem_append.mpr (.inl h)
theorem mem_r {a : Addr} {p q : List Addr} (h : a ∈ q) : a ∈ p ++ q := List.mem_append.mpr (.inr h)
theorem sc_rp {H' : Hp} (h : Rp K C H v d) (z : scD d = true) : Rp K C H' v d := by
  cases h with
  | non => exact .non
  | bl b => exact .bl b
  | int i => exact .int i
  | str y => exact .str y
  | _ => cases z
theorem sc_any (h : Rp K C H v d) (z : scD d = true) : Rp K C' H' v d := by
  cases h with
  | non => exact .non
  | bl b => exact .bl b
  | int i => exact .int i
  | str y => exact .str y
  | _ => cases z
/-- the frozen part may grow; what is owned lies as it did -/
theorem Ow.mono (f : Same F F') (h : Ow K C F H s v d fp) : (∀ a ∈ fp, H' a = H a) → Ow K C F' H' s v d fp :=
  Ow.rec (motive_1 := fun s v d fp _ => (∀ a ∈ fp, H' a = H a) → Ow K C F' H' s v d fp) (motive_2 := fun s v d fp _ => (∀ a ∈ fp, H' a = H a) → OwA K C F' H' s v d fp)
    (motive_3 := fun s v d fp _ => (∀ a ∈ fp, H' a = H a) → OwF K C F' H' s v d fp) (motive_4 := fun s v d fp _ => (∀ a ∈ fp, H' a = H a) → OwK K C F' H' s v d fp)
    (fun z r _ => .sc z (r.up f)) (fun r _ => .fz (r.up f))
    (fun h _ n ih g => .lst ((g _ List.mem_cons_self).trans h) (ih fun a ha => g a (List.mem_cons_of_mem _ ha)) n)
    (fun h _ n ih g => .tup ((g _ List.mem_cons_self).trans h) (ih fun a ha => g a (List.mem_cons_of_mem _ ha)) n)
    (fun c h _ n ih g => .ins c ((g _ List.mem_cons_self).trans h) (ih fun a ha => g a (List.mem_cons_of_mem _ ha)) n)
    (fun h _ n ih g => .dic ((g _ List.mem_cons_self).trans h) (ih fun a ha => g a (List.mem_cons_of_mem _ ha)) n)
    (fun _ => .nil) (fun _ _ n i j g => .cons (i fun a ha => g a (mem_l ha)) (j fun a ha => g a (mem_r ha)) n)
    (fun _ => .nil) (fun _ _ n i j g => .cons (i fun a ha => g a (mem_l ha)) (j fun a ha => g a (mem_r ha)) n)
    (fun _ => .nil) (fun _ _ n i j g => .cons (i fun a ha => g a (mem_l ha)) (j fun a ha => g a (mem_r ha)) n) h
theorem OwA.mono (f : Same F F') : ∀ {vs : List V} {ds : List D} {fp : List Addr}, OwA K C F H s vs ds fp → (∀ a ∈ fp, H' a = H a) → OwA K C F' H' s vs ds fp
  | _, _, _, .nil, _ => .nil
  | _, _, _, .cons a b n, g => .cons (a.mono f fun x hx => g x (mem_l hx)) (OwA.mono f b fun x hx => g x (mem_r hx)) n
theorem OwF.mono (f : Same F F') : ∀ {ss : List (Str × Sh)} {vs : List (Str × V)} {ds : List (D × D)} {fp : List Addr}, OwF K C F H ss vs ds fp → (∀ a ∈ fp, H' a = H a) → OwF K C F' H' ss vs ds fp
  | _, _, _, _, .nil, _ => .nil
  | _, _, _, _, .cons a b n, g => .cons (a.mono f fun x hx => g x (mem_l hx)) (OwF.mono f b fun x hx => g x (mem_r hx)) n
theorem OwK.mono (f : Same F F') : ∀ {vs : List (Key × V)} {ds : List (D × D)} {fp : List Addr}, OwK K C F H s vs ds fp → (∀ a ∈ fp, H' a = H a) → OwK K C F' H' s vs ds fp
  | _, _, _, .nil, _ => .nil
  | _, _, _, .cons a b n, g => .cons (a.mono f fun x hx => g x (mem_l hx)) (OwK.mono f b fun x hx => g x (mem_r hx)) n
/-- all of it is frozen -/
theorem Ow.rp (f : Same F F') (h : Ow K C F H s v d fp) : (∀ a ∈ fp, F' a = H a) → Rp K C F' v d :=
  Ow.rec (motive_1 := fun s v d fp _ => (∀ a ∈ fp, F' a = H a) → Rp K C F' v d) (motive_2 := fun s v d fp _ => (∀ a ∈ fp, F' a = H a) → RpA K C F' v d)
    (motive_3 := fun s v d fp _ => (∀ a ∈ fp, F' a = H a) → RpF K C F' v d) (motive_4 := fun s v d fp _ => (∀ a ∈ fp, F' a = H a) → RpK K C F' v d)
    (fun z r _ => r.up f) (fun r _ => r.up f)
    (fun h _ n ih g => .lst (.inl (.inl ((g _ List.mem_cons_self).trans h))) (ih fun a ha => g a (List.mem_cons_of_mem _ ha)))
    (fun h _ n ih g => .tup (SqT.of ((g _ List.mem_cons_self).trans h)) (ih fun a ha => g a (List.mem_cons_of_mem _ ha)))
    (fun c h _ n ih g => .obj c ((g _ List.mem_cons_self).trans h) (ih fun a ha => g a (List.mem_cons_of_mem _ ha)))
    (fun h _ n ih g => .dic (.inl ((g _ List.mem_cons_self).trans h)) (ih fun a ha => g a (List.mem_cons_of_mem _ ha)))
    (fun _ => .nil) (fun _ _ n i j g => .cons (i fun a ha => g a (mem_l ha)) (j fun a ha => g a (mem_r ha)))
    (fun _ => .nil) (fun _ _ n i j g => .cons (i fun a ha => g a (mem_l ha)) (j fun a ha => g a (mem_r ha)))
    (fun _ => .nil) (fun _ _ n i j g => .cons (i fun a ha => g a (mem_l ha)) (j fun a ha => g a (mem_r ha))) h
theorem OwA.rp (f : Same F F') : ∀ {vs : List V} {ds : List D} {fp : List Addr}, OwA K C F H s vs ds fp → (∀ a ∈ fp, F' a = H a) → RpA K C F' vs ds
  | _, _, _, .nil, _ => .nil
  | _, _, _, .cons a b n, g => .cons (a.rp f fun x hx => g x (mem_l hx)) (OwA.rp f b fun x hx => g x (mem_r hx))
theorem OwF.rp (f : Same F F') : ∀ {ss : List (Str × Sh)} {vs : List (Str × V)} {ds : List (D × D)} {fp : List Addr}, OwF K C F H ss vs ds fp → (∀ a ∈ fp, F' a = H a) → RpF K C F' vs ds
  | _, _, _, _, .nil, _ => .nil
  | _, _, _, _, .cons a b n, g => .cons (a.rp f fun x hx => g x (mem_l hx)) (OwF.rp f b fun x hx => g x (mem_r hx))
/-- what is owned is there -/
theorem Ow.live (h : Ow K C F H s v d fp) : ∀ a ∈ fp, ∃ o, H a = some o :=
  Ow.rec (motive_1 := fun s v d fp _ => ∀ a ∈ fp, ∃ o, H a = some o) (motive_2 := fun s v d fp _ => ∀ a ∈ fp, ∃ o, H a = some o)
    (motive_3 := fun s v d fp _ => ∀ a ∈ fp, ∃ o, H a = some o) (motive_4 := fun s v d fp _ => ∀ a ∈ fp, ∃ o, H a = some o)
    (fun z r a h => nomatch h) (fun r a h => nomatch h)
    (fun h _ n ih a g => (List.mem_cons.mp g).elim (fun e => ⟨_, e ▸ h⟩) (ih a))
    (fun h _ n ih a g => (List.mem_cons.mp g).elim (fun e => ⟨_, e ▸ h⟩) (ih a))
    (fun c h _ n ih a g => (List.mem_cons.mp g).elim (fun e => ⟨_, e ▸ h⟩) (ih a))
    (fun h _ n ih a g => (List.mem_cons.mp g).elim (fun e => ⟨_, e ▸ h⟩) (ih a))
    (fun a h => nomatch h) (fun _ _ n i j a g => (List.mem_append.mp g).elim (i a) (j a))
    (fun a h => nomatch h) (fun _ _ n i j a g => (List.mem_append.mp g).elim (i a) (j a))
    (fun a h => nomatch h) (fun _ _ n i j a g => (List.mem_append.mp g).elim (i a) (j a)) h
theorem OwA.live : ∀ {vs : List V} {ds : List D} {fp : List Addr}, OwA K C F H s vs ds fp → ∀ a ∈ fp, ∃ o, H a = some o
  | _, _, _, .nil => fun a h => nomatch h
  | _, _, _, .cons a b n => fun x g => (List.mem_append.mp g).elim (a.live x) (OwA.live b x)
/-- nothing was handled, now something is -/
theorem Ow.hot (e : C'.cl = C.cl) (n : C.xa = none) (h : Ow K C F H s v d fp) : Ow K C' F H s v d fp :=
  Ow.rec (motive_1 := fun s v d fp _ => Ow K C' F H s v d fp) (motive_2 := fun s v d fp _ => OwA K C' F H s v d fp)
    (motive_3 := fun s v d fp _ => OwF K C' F H s v d fp) (motive_4 := fun s v d fp _ => OwK K C' F H s v d fp)
    (fun z r => .sc z (Rp.hot e n _ _ r)) (fun r => .fz (Rp.hot e n _ _ r))
    (fun h _ n ih => .lst h ih n)
    (fun h _ n ih => .tup h ih n)
    (fun c h _ n ih => .ins (by rw [e]; exact c) h ih n)
    (fun h _ n ih => .dic h ih n)
    .nil (fun _ _ n i j => .cons i j n)
    .nil (fun _ _ n i j => .cons i j n)
    .nil (fun _ _ n i j => .cons i j n) h
theorem OwA.gr' (g : ∀ (v : V) (d : D) (fp : List Addr), d ∈ ds → Ow K C F H s v d fp → Ow K C F' H s v d fp) : ∀ {vs : List V} {es : List D} {fp : List Addr}, (∀ d ∈ es, d ∈ ds) → OwA K C F H s vs es fp → OwA K C F' H s vs es fp
  | _, _, _, _, .nil => .nil
  | _, _, _, m, .cons a b n => .cons (g _ _ _ (m _ List.mem_cons_self) a) (OwA.gr' g (fun d h => m d (List.mem_cons_of_mem _ h)) b) n
/-- what is not new is scalar: the frozen part does not count -/
theorem Ow.ground (g : Gr s d) : ∀ {v : V} {fp : List Addr}, Ow K C F H s v d fp → Ow K C F' H s v d fp := by
  induction g with
  | sc z =>
    intro v fp h
    cases h with
    | sc _ r => exact .sc z (sc_rp r z)
    | fz r => exact .sc z (sc_rp r z)
    | _ => cases z
  | lst g ih =>
    intro v fp h
    cases h with
    | sc z r => cases z
    | lst h a n => exact .lst h (OwA.gr' (fun v d fp hd w => ih d hd w) (fun _ h => h) a) n
  | tup g ih =>
    intro v fp h
    cases h with
    | sc z r => cases z
    | tup h a n => exact .tup h (OwA.gr' (fun v d fp hd w => ih d hd w) (fun _ h => h) a) n
theorem OwA.ofRp : ∀ {vs : List V} {ds : List D}, RpA K C F vs ds → OwA K C F H .frz vs ds []
  | _, _, .nil => .nil
  | _, _, .cons a b => .cons (fp := []) (fq := []) (.fz a) (OwA.ofRp b) (fun _ h => nomatch h)
theorem Ow.toRp (h : Ow K C F H .frz v d fp) : fp = [] ∧ Rp K C F v d := by
  cases h with
  | sc z r => exact ⟨rfl, r⟩
  | fz r => exact ⟨rfl, r⟩
theorem OwA.toRp : ∀ {vs : List V} {ds : List D} {fp : List Addr}, OwA K C F H .frz vs ds fp → fp = [] ∧ RpA K C F vs ds
  | _, _, _, .nil => ⟨rfl, .nil⟩
  | _, _, _, .cons a b _ => by
    obtain ⟨e, r⟩ := a.toRp
    obtain ⟨e', r'⟩ := OwA.toRp b
    subst e e'
    exact ⟨rfl, .cons r r'⟩
theorem OwA.len : ∀ {vs : List V} {ds : List D} {fp : List Addr}, OwA K C F H s vs ds fp → vs.length = ds.length
  | _, _, _, .nil => rfl
  | _, _, _, .cons _ b _ => congrArg (· + 1) (OwA.len b)
/-- one more at the end -/
theorem OwA.snoc {v : V} {d : D} {fq : List Addr} (w : Ow K C F H s v d fq) : ∀ {vs : List V} {ds : List D} {fp : List Addr}, OwA K C F H s vs ds fp → (∀ a ∈ fp, a ∉ fq) → ∃ fr, (∀ a, a ∈ fr ↔ a ∈ fp ∨ a ∈ fq) ∧ OwA K C F H s (vs ++ [v]) (ds ++ [d]) fr
  | _, _, _, .nil, _ => ⟨fq ++ [], by simp, .cons w .nil (by simp)⟩
  | _, _, _, .cons (fp := fa) (fq := fb) a b n, m => by
    obtain ⟨fr, h1, h2⟩ := OwA.snoc w b fun x hx => m x (mem_r hx)
    refine ⟨fa ++ fr, fun x => ?_, .cons a h2 fun x hx hy => ?_⟩
    · simp only [List.mem_append, h1]
      constructor
      · rintro (h | h | h)
        · exact .inl (.inl h)
        · exact .inl (.inr h)
        · exact .inr h
      · rintro ((h | h) | h)
        · exact .inl h
        · exact .inr (.inl h)
        · exact .inr (.inr h)
    · rcases (h1 x).mp hy with h | h
      · exact n x hx h
      · exact m x (mem_l hx) h
theorem OwA.app : ∀ {vs : List V} {ds : List D} {fp : List Addr} {ws : List V} {es : List D} {fq : List Addr}, OwA K C F H s vs ds fp → OwA K C F H s ws es fq → (∀ a ∈ fp, a ∉ fq) → ∃ fr, (∀ a, a ∈ fr ↔ a ∈ fp ∨ a ∈ fq) ∧ OwA K C F H s (vs ++ ws) (ds ++ es) fr
  | _, _, _, _, _, fq, .nil, w, _ => ⟨fq, by simp, w⟩
  | _, _, _, _, _, fq, .cons (fp := fa) (fq := fb) a b n, w, m => by
    obtain ⟨fr, h1, h2⟩ := OwA.app b w fun x hx => m x (mem_r hx)
    refine ⟨fa ++ fr, fun x => ?_, .cons a h2 fun x hx hy => ?_⟩
    · simp only [List.mem_append, h1]
      constructor
      · rintro (h | h | h)
        · exact .inl (.inl h)
        · exact .inl (.inr h)
        · exact .inr h
      · rintro ((h | h) | h)
        · exact .inl h
        · exact .inr (.inl h)
        · exact .inr (.inr h)
    · rcases (h1 x).mp hy with h | h
      · exact n x hx h
      · exact m x (mem_l hx) h
/-- a child, and another in its place -/
theorem OwA.focus : ∀ {vs : List V} {ds : List D} {fp : List Addr} {k : Nat} {d : D}, OwA K C F H s vs ds fp → ds[k]? = some d →
    ∃ (v : V) (fa fb : List Addr), vs[k]? = some v ∧ Ow K C F H s v d fa ∧ (∀ a, a ∈ fp ↔ a ∈ fa ∨ a ∈ fb) ∧ (∀ a ∈ fa, a ∉ fb) ∧
      ∀ (F' H' : Hp) (v' : V) (d' : D) (fq : List Addr), Same F F' → (∀ a ∈ fb, H' a = H a) → Ow K C F' H' s v' d' fq → (∀ a ∈ fq, a ∉ fb) → ∃ fr, (∀ a, a ∈ fr ↔ a ∈ fq ∨ a ∈ fb) ∧ OwA K C F' H' s (vs.set k v') (ds.set k d') fr
  | _, _, _, _, _, .nil, e => by simp at e
  | _, _, _, 0, _, .cons (fp := fa) (fq := fb) a b n, e => by
    simp at e; subst e
    exact ⟨_, fa, fb, rfl, a, fun x => List.mem_append, n, fun F' H' v' d' fq f g w m => ⟨fq ++ fb, fun x => List.mem_append, .cons w (b.mono f g) m⟩⟩
  | _, _, _, k + 1, _, .cons (fp := fc) (fq := fd) a b n, e => by
    obtain ⟨v, fa, fb, h1, h2, h3, h4, h5⟩ := OwA.focus (k := k) b (by simpa using e)
    refine ⟨v, fa, fc ++ fb, by simpa using h1, h2, fun x => ?_, fun x hx hy => ?_, fun F' H' v' d' fq f g w m => ?_⟩
    · simp only [List.mem_append, h3]
      constructor
      · rintro (h | h | h)
        · exact .inr (.inl h)
        · exact .inl h
        · exact .inr (.inr h)
      · rintro (h | h | h)
        · exact .inr (.inl h)
        · exact .inl h
        · exact .inr (.inr h)
    · rcases List.mem_append.mp hy with h | h
      · exact n x h ((h3 x).mpr (.inl hx))
      · exact h4 x hx h
    · obtain ⟨fr, q1, q2⟩ := h5 F' H' v' d' fq f (fun x hx => g x (mem_r hx)) w fun x hx hy => m x hx (mem_r hy)
      refine ⟨fc ++ fr, fun x => ?_, .cons (a.mono f fun x hx => g x (mem_l hx)) q2 fun x hx hy => ?_⟩
      · simp only [List.mem_append, q1]
        constructor
        · rintro (h | h | h)
          · exact .inr (.inl h)
          · exact .inl h
          · exact .inr (.inr h)
        · rintro (h | h | h)
          · exact .inr (.inl h)
          · exact .inl h
          · exact .inr (.inr h)
      · rcases (q1 x).mp hy with h | h
        · exact m x h (mem_l hx)
        · exact n x hx ((h3 x).mpr (.inr h))
end
end Tx

set_option Elab.async false
set_option linter.all false
set_option maxRecDepth 100000
set_option maxHeartbeats 4000000
/-! A4: the slots of a def; a part of what is owned, and another in its place. -/
namespace Tx
open PySem L2 En

/-- how a slot holds its value: data of the frozen part; borrowed; owned (its root, where it is told) -/
inductive Md where
  | fz
  | bw (s : Sh) (r : Option V)
  | ow (s : Sh) (r : Option V)
inductive Sl where
  | un
  | vl (m : Md) (d : D)
abbrev Env := Nat → Sl
def e0 : Env := fun _ => .un
def se (ρ : Env) (i : Nat) (x : Sl) : Env := fun j => bif Nat.beq j i then x else ρ j
theorem se_same (ρ : Env) (i : Nat) (x : Sl) : se ρ i x i = x := by simp [se]
theorem se_ne (ρ : Env) {i j : Nat} (x : Sl) (h : j ≠ i) : se ρ i x j = ρ j := by
  have e : Nat.beq j i = false := by
    cases q : Nat.beq j i with
    | false => rfl
    | true => exact (h (Nat.eq_of_beq_eq_true q)).elim
  simp [se, e]
def fset (g : Nat → List Addr) (i : Nat) (p : List Addr) : Nat → List Addr := fun j => if j = i then p else g j
theorem fset_same (g : Nat → List Addr) (i : Nat) (p : List Addr) : fset g i p i = p := if_pos rfl
theorem fset_ne (g : Nat → List Addr) {i j : Nat} (p : List Addr) (h : j ≠ i) : fset g i p j = g j := if_neg h
def hid (H : Hp) (fp : List Addr) : Hp := fun a => if a ∈ fp then none else H a
theorem hid_in {H : Hp} {fp : List Addr} {a : Addr} (h : a ∈ fp) : hid H fp a = none := if_pos h
theorem hid_out {H : Hp} {fp : List Addr} {a : Addr} (h : a ∉ fp) : hid H fp a = H a := if_neg h
theorem hid_le (H : Hp) (fp : List Addr) : Same (hid H fp) H := fun a o h => by
  by_cases y : a ∈ fp
  · rw [hid_in y] at h; cases h
  · rw [hid_out y] at h; exact h
section
variable (K : PySem.W.Frag) (C : Rc) (H0 F H : Hp)
def ValM : Md → V → D → List Addr → Prop
  | .fz, v, d, fp => fp = [] ∧ Rp K C F v d
  | .bw s r, v, d, fp => (∀ u, r = some u → v = u) ∧ Ow K C F H s v d fp ∧ ∀ a ∈ fp, F a = none ∧ ∃ o, H0 a = some o
  | .ow s r, v, d, fp => (∀ u, r = some u → v = u) ∧ Ow K C F H s v d fp ∧ ∀ a ∈ fp, F a = none ∧ H0 a = none
structure EnvS (L : Nat) (σ : L2.St) (ρ : Env) : Prop where
  same : Same H0 H
  sub : Same F H
  len : σ.length = L
  sl : ∃ fp : Nat → List Addr, (∀ i m d, ρ i = .vl m d → ∃ v, σ[i]? = some (some v) ∧ ValM K C H0 F H m v d (fp i)) ∧
    ∀ i j s r d t q e, i ≠ j → ρ i = .vl (.ow s r) d → ρ j = .vl (.ow t q) e → ∀ a ∈ fp i, a ∉ fp j
end
/-- a slot's part in the heap of a caller: all that stands in H is new to it -/
def Le (ρ' ρ : Env) : Prop := ∀ i, ρ' i = .un ∨ ρ' i = ρ i
theorem Le.refl (ρ : Env) : Le ρ ρ := fun _ => .inr rfl
theorem Le.e0 {ρ : Env} : Le e0 ρ := fun _ => .inl rfl
theorem Le.se {ρ' ρ : Env} {i : Nat} {x : Sl} (h : Le ρ' ρ) (e : ρ i = x) : Le (se ρ' i x) ρ := fun j => by
  by_cases q : j = i
  · subst q; rw [se_same]; exact .inr e.symm
  · rw [se_ne _ _ q]; exact h j
/-- all that may be read, as frozen -/
def fzA (ρ : Env) : Env := fun i => match ρ i with
  | .un => .un
  | .vl _ d => .vl .fz d
section
variable {K : PySem.W.Frag} {C : Rc} {H0 F F' H H' : Hp} {L : Nat} {σ : L2.St} {ρ ρ' : Env} {i : Nat} {s : Sh} {v : V} {d : D} {r : Option V} {fp : List Addr}
theorem ValM.grow (k : ∀ a ∈ fp, ∃ o, H a = some o) (m : Md) (h : ValM K C H0 F H m v d fp) (sm : Same H H') (x : Ext F H F') : ValM K C H0 F' H' m v d fp := by
  have keep : ∀ a ∈ fp, F a = none → F' a = none ∧ H' a = H a := fun a ha fa => by
    obtain ⟨o, e⟩ := k a ha
    exact ⟨x.out e fa, (sm a o e).trans e.symm⟩
  cases m with
  | fz => exact ⟨h.1, h.2.up x.up⟩
  | bw s r =>
    obtain ⟨e, w, n⟩ := h
    exact ⟨e, w.mono x.up fun a ha => (keep a ha (n a ha).1).2, fun a ha => ⟨(keep a ha (n a ha).1).1, (n a ha).2⟩⟩
  | ow s r =>
    obtain ⟨e, w, n⟩ := h
    exact ⟨e, w.mono x.up fun a ha => (keep a ha (n a ha).1).2, fun a ha => ⟨(keep a ha (n a ha).1).1, (n a ha).2⟩⟩
theorem ValM.live {m : Md} (h : ValM K C H0 F H m v d fp) : ∀ a ∈ fp, ∃ o, H a = some o := by
  cases m with
  | fz => intro a ha; rw [h.1] at ha; cases ha
  | bw s r => exact h.2.1.live
  | ow s r => exact h.2.1.live
theorem ValM.rp (m : Md) (h : ValM K C H0 F H m v d fp) (sb : Same F H) : Rp K C H v d := by
  cases m with
  | fz => exact h.2.up sb
  | bw s r => exact h.2.1.rp sb fun _ _ => rfl
  | ow s r => exact h.2.1.rp sb fun _ _ => rfl
/-- the heap has grown, the frozen part with it -/
theorem EnvS.grow (k : EnvS K C H0 F H L σ ρ) (sm : Same H H') (x : Ext F H F') (sb : Same F' H') : EnvS K C H0 F' H' L σ ρ := by
  obtain ⟨fp, o1, o2⟩ := k.sl
  refine ⟨k.same.trans sm, sb, k.len, fp, fun i m d e => ?_, o2⟩
  obtain ⟨v, h1, h2⟩ := o1 i m d e
  exact ⟨v, h1, h2.grow h2.live m sm x⟩
theorem EnvS.heap (k : EnvS K C H0 F H L σ ρ) (sm : Same H H') : EnvS K C H0 F H' L σ ρ := k.grow sm (Ext.refl F H) (k.sub.trans sm)
theorem EnvS.le (k : EnvS K C H0 F H L σ ρ) (h : Le ρ' ρ) : EnvS K C H0 F H L σ ρ' := by
  obtain ⟨fp, o1, o2⟩ := k.sl
  have up : ∀ i m d, ρ' i = .vl m d → ρ i = .vl m d := fun i m d e => by
    rcases h i with q | q
    · rw [q] at e; cases e
    · rw [← q]; exact e
  exact ⟨k.same, k.sub, k.len, fp, fun i m d e => o1 i m d (up i m d e), fun i j s r d t q e n h1 h2 => o2 i j s r d t q e n (up _ _ _ h1) (up _ _ _ h2)⟩
theorem EnvS.all (k : EnvS K C H0 F H L σ ρ) : EnvS K C H H H L σ (fzA ρ) := by
  obtain ⟨fp, o1, o2⟩ := k.sl
  have nf : ∀ i m d, fzA ρ i = .vl m d → m = .fz ∧ ∃ m', ρ i = .vl m' d := fun i m d e => by
    unfold fzA at e
    split at e
    · cases e
    · rename_i m' d' q
      cases e
      exact ⟨rfl, m', q⟩
  refine ⟨Same.refl H, Same.refl H, k.len, fun _ => [], fun i m d e => ?_, fun i j s r d t q e n h1 h2 => ?_⟩
  · obtain ⟨e1, m', e2⟩ := nf i m d e
    subst e1
    obtain ⟨v, h1, h2⟩ := o1 i m' d e2
    exact ⟨v, h1, rfl, h2.rp m' k.sub⟩
  · cases (nf i _ d h1).1
/-- data to a slot -/
theorem EnvS.set (k : EnvS K C H0 F H L σ ρ) (hi : i < L) (rp : Rp K C F v d) : EnvS K C H0 F H L (σ.set i (some v)) (se ρ i (.vl .fz d)) := by
  obtain ⟨fp, o1, o2⟩ := k.sl
  refine ⟨k.same, k.sub, by rw [List.length_set]; exact k.len, fset fp i [], fun j m e q => ?_, fun a b s r d t q e n h1 h2 x hx => ?_⟩
  · by_cases z : j = i
    · subst z
      rw [se_same] at q
      cases q
      exact ⟨v, List.getElem?_set_self (by rw [k.len]; exact hi), fset_same _ _ _, rp⟩
    · rw [se_ne _ _ z] at q
      rw [List.getElem?_set_ne (Ne.symm z), fset_ne _ _ z]
      exact o1 j m e q
  · have na : a ≠ i := fun z => by subst z; rw [se_same] at h1; cases h1
    have nb : b ≠ i := fun z => by subst z; rw [se_same] at h2; cases h2
    rw [se_ne _ _ na] at h1
    rw [se_ne _ _ nb] at h2
    rw [fset_ne _ _ na] at hx
    rw [fset_ne _ _ nb]
    exact o2 a b s r d t q e n h1 h2 x hx
/-- what is new to a slot -/
theorem EnvS.setN (k : EnvS K C H0 F H L σ ρ) (hi : i < L) (sm : Same H H') (x : Ext F H F') (sb : Same F' H') (w : Ow K C F' H' s v d fp) (hn : ∀ a ∈ fp, H a = none ∧ F' a = none) : EnvS K C H0 F' H' L (σ.set i (some v)) (se ρ i (.vl (.ow s none) d)) := by
  obtain ⟨gp, o1, o2⟩ := k.sl
  have k2 := k.grow sm x sb
  have old : ∀ j m e, j ≠ i → ρ j = .vl m e → ∀ a ∈ gp j, ∃ o, H a = some o := fun j m e _ q => by
    obtain ⟨u, h1, h2⟩ := o1 j m e q
    exact h2.live
  refine ⟨k2.same, sb, by rw [List.length_set]; exact k.len, fset gp i fp, fun j m e q => ?_, fun a b s r d t q e n h1 h2 y hy => ?_⟩
  · by_cases z : j = i
    · subst z
      rw [se_same] at q
      cases q
      refine ⟨v, List.getElem?_set_self (by rw [k.len]; exact hi), (fun u h => by cases h), ?_, ?_⟩
      · rw [fset_same]; exact w
      · rw [fset_same]; exact fun a ha => ⟨(hn a ha).2, none_back k.same (hn a ha).1⟩
    · rw [se_ne _ _ z] at q
      rw [List.getElem?_set_ne (Ne.symm z), fset_ne _ _ z]
      obtain ⟨u, h1, h2⟩ := o1 j m e q
      exact ⟨u, h1, h2.grow h2.live m sm x⟩
  · by_cases za : a = i
    · have zb : b ≠ i := fun z => n (za.trans z.symm)
      subst za; rw [fset_same] at hy
      rw [fset_ne _ _ zb]
      rw [se_ne _ _ zb] at h2
      intro hz
      obtain ⟨o, e'⟩ := old b _ _ zb h2 y hz
      rw [(hn y hy).1] at e'
      cases e'
    · rw [fset_ne _ _ za] at hy
      rw [se_ne _ _ za] at h1
      by_cases zb : b = i
      · subst zb; rw [fset_same]
        intro hz
        obtain ⟨o, e'⟩ := old a _ _ za h1 y hy
        rw [(hn y hz).1] at e'
        cases e'
      · rw [fset_ne _ _ zb]
        rw [se_ne _ _ zb] at h2
        exact o2 a b s r d t q e n h1 h2 y hy
/-- what is told of a slot that owns its value -/
structure Own (K : PySem.W.Frag) (C : Rc) (H0 F H : Hp) (L : Nat) (σ : L2.St) (ρ : Env) (i : Nat) (s : Sh) (r : Option V) (d : D) (v : V) (fp : List Addr) : Prop where
  at_ : σ[i]? = some (some v)
  rt : ∀ u, r = some u → v = u
  ow : Ow K C F H s v d fp
  fre : ∀ a ∈ fp, F a = none ∧ H0 a = none
  /-- another in its place, at the same root -/
  put : ∀ (F1 H1 F' H' : Hp) (s' : Sh) (d' : D) (fp' : List Addr), Same H H1 → Ext F H F1 → Same F1 H1 → Same (hid H1 fp) H' → Same F' H' → Ext F1 (hid H1 fp) F' → Ow K C F' H' s' v d' fp' → (∀ a ∈ fp', hid H1 fp a = none ∧ F' a = none) →
    EnvS K C H0 F' H' L σ (se ρ i (.vl (.ow s' r) d'))
  /-- it is taken out -/
  out : EnvS K C H0 F H L σ (se ρ i .un)
theorem hid_same (k : Same H0 H) (n : ∀ a ∈ fp, H0 a = none) : Same H0 (hid H fp) := fun a o e => by
  rw [hid_out fun h => by rw [n a h] at e; cases e]
  exact k a o e
theorem EnvS.own (k : EnvS K C H0 F H L σ ρ) (hi : ρ i = .vl (.ow s r) d) : ∃ v fp, Own K C H0 F H L σ ρ i s r d v fp := by
  obtain ⟨gp, o1, o2⟩ := k.sl
  obtain ⟨v, h1, h2, h3, h4⟩ := o1 i _ d hi
  refine ⟨v, gp i, h1, h2, h3, h4, fun F1 H1 F' H' s' d' fp' s1 x1 sb1 s2 sb' x2 w n => ?_, ?_⟩
  · have oth : ∀ j m e, j ≠ i → ρ j = .vl m e → ∀ a ∈ gp j, a ∉ gp i := fun j m e nj q a ha hb => by
      obtain ⟨u, _, q2⟩ := o1 j m e q
      cases m with
      | fz => rw [q2.1] at ha; cases ha
      | bw t q' =>
        obtain ⟨_, o, e'⟩ := q2.2.2 a ha
        rw [(h4 a hb).2] at e'; cases e'
      | ow t q' => exact o2 j i t q' e s r d nj q hi a ha hb
    refine ⟨(hid_same (k.same.trans s1) fun a ha => (h4 a ha).2).trans s2, sb', k.len, fset gp i fp', fun j m e q => ?_, fun a b s r d t q e n' e1 e2 y hy => ?_⟩
    · by_cases z : j = i
      · subst z
        rw [se_same] at q
        cases q
        refine ⟨v, h1, h2, ?_, ?_⟩
        · rw [fset_same]; exact w
        · rw [fset_same]
          exact fun a ha => ⟨(n a ha).2, none_back (hid_same (k.same.trans s1) fun a ha => (h4 a ha).2) (n a ha).1⟩
      · rw [se_ne _ _ z] at q
        rw [fset_ne _ _ z]
        obtain ⟨u, q1, q2⟩ := o1 j m e q
        have g := q2.grow q2.live m s1 x1
        have out := oth j m e z q
        refine ⟨u, q1, ?_⟩
        have liv : ∀ a ∈ gp j, ∃ o, hid H1 (gp i) a = some o := fun a ha => by
          obtain ⟨o, e'⟩ := q2.live a ha
          exact ⟨o, by rw [hid_out (out a ha)]; exact s1 a o e'⟩
        have g2 : ValM K C H0 F1 (hid H1 (gp i)) m u e (gp j) := by
          cases m with
          | fz => exact g
          | bw t q' => exact ⟨g.1, g.2.1.mono (Same.refl F1) fun a ha => hid_out (out a ha), g.2.2⟩
          | ow t q' => exact ⟨g.1, g.2.1.mono (Same.refl F1) fun a ha => hid_out (out a ha), g.2.2⟩
        exact g2.grow liv m s2 x2
    · by_cases za : a = i
      · have zb : b ≠ i := fun z => n' (za.trans z.symm)
        subst za; rw [fset_same] at hy
        rw [fset_ne _ _ zb]
        rw [se_ne _ _ zb] at e2
        intro hz
        obtain ⟨u, _, q2⟩ := o1 b _ _ e2
        obtain ⟨o, e'⟩ := q2.live y hz
        have nn := (n y hy).1
        rw [hid_out (oth b _ _ zb e2 y hz), s1 y o e'] at nn
        cases nn
      · rw [fset_ne _ _ za] at hy
        rw [se_ne _ _ za] at e1
        by_cases zb : b = i
        · subst zb; rw [fset_same]
          intro hz
          obtain ⟨u, _, q2⟩ := o1 a _ _ e1
          obtain ⟨o, e'⟩ := q2.live y hy
          have nn := (n y hz).1
          rw [hid_out (oth a _ _ za e1 y hy), s1 y o e'] at nn
          cases nn
        · rw [fset_ne _ _ zb]
          rw [se_ne _ _ zb] at e2
          exact o2 a b s r d t q e n' e1 e2 y hy
  · exact k.le fun j => by
      by_cases z : j = i
      · subst z; exact .inl (se_same _ _ _)
      · exact .inr (se_ne _ _ z)
/-- a slot that owns its value is frozen -/
theorem EnvS.frz (k : EnvS K C H0 F H L σ ρ) (hi : ρ i = .vl (.ow s r) d) : ∃ F', Same F F' ∧ Ext F H0 F' ∧ EnvS K C H0 F' H L σ (se ρ i (.vl .fz d)) := by
  obtain ⟨gp, o1, o2⟩ := k.sl
  obtain ⟨v, h1, h2, h3, h4⟩ := o1 i _ d hi
  let F' : Hp := fun a => if a ∈ gp i then H a else F a
  have inF : ∀ a ∈ gp i, F' a = H a := fun a h => if_pos h
  have outF : ∀ a, a ∉ gp i → F' a = F a := fun a h => if_neg h
  have s1 : Same F F' := fun a u z => by
    by_cases y : a ∈ gp i
    · rw [(h4 a y).1] at z; cases z
    · rw [outF a y]; exact z
  have sb : Same F' H := fun a u z => by
    by_cases y : a ∈ gp i
    · rw [inF a y] at z; exact z
    · rw [outF a y] at z; exact k.sub a u z
  refine ⟨F', s1, ⟨s1, fun a u z => ?_⟩, k.same, sb, k.len, fset gp i [], fun j m e q => ?_, fun a b s r d t q e n e1 e2 y hy => ?_⟩
  · by_cases y : a ∈ gp i
    · exact .inr (h4 a y).2
    · rw [outF a y] at z; exact .inl ⟨u, z⟩
  · by_cases z : j = i
    · subst z
      rw [se_same] at q
      cases q
      exact ⟨v, h1, fset_same _ _ _, h3.rp s1 inF⟩
    · rw [se_ne _ _ z] at q
      rw [fset_ne _ _ z]
      obtain ⟨u, q1, q2⟩ := o1 j m e q
      refine ⟨u, q1, ?_⟩
      have out : ∀ a ∈ gp j, F' a = F a := fun a ha => outF a fun hb => by
        cases m with
        | fz => rw [q2.1] at ha; cases ha
        | bw t q' =>
          obtain ⟨_, o, e'⟩ := q2.2.2 a ha
          rw [(h4 a hb).2] at e'; cases e'
        | ow t q' => exact o2 j i t q' e s r d z q hi a ha hb
      cases m with
      | fz => exact ⟨q2.1, q2.2.up s1⟩
      | bw t q' => exact ⟨q2.1, q2.2.1.mono s1 fun _ _ => rfl, fun a ha => ⟨(out a ha).trans (q2.2.2 a ha).1, (q2.2.2 a ha).2⟩⟩
      | ow t q' => exact ⟨q2.1, q2.2.1.mono s1 fun _ _ => rfl, fun a ha => ⟨(out a ha).trans (q2.2.2 a ha).1, (q2.2.2 a ha).2⟩⟩
  · have na : a ≠ i := fun z => by subst z; rw [se_same] at e1; cases e1
    have nb : b ≠ i := fun z => by subst z; rw [se_same] at e2; cases e2
    rw [se_ne _ _ na] at e1
    rw [se_ne _ _ nb] at e2
    rw [fset_ne _ _ na] at hy
    rw [fset_ne _ _ nb]
    exact o2 a b s r d t q e n e1 e2 y hy
/-- what of the slots stands when a loan ends -/
def Back (i : Nat) (ρ ρ' ρ2 : Env) : Prop := ∀ j, j ≠ i → ρ2 j = .un ∨ (ρ2 j = ρ' j ∧ ∀ s r d, ρ' j ≠ .vl (.bw s r) d) ∨ ∃ s v d, ρ2 j = .vl (.bw s (some v)) d ∧ ρ j = .vl (.bw s (some v)) d ∧ ρ' j = .vl (.bw s (some v)) d
/-- a slot's value is lent: it stands in the base heap -/
theorem EnvS.lend (k : EnvS K C H0 F H L σ ρ) (hi : ρ i = .vl (.ow s r) d) : ∃ (v : V) (H1 : Hp), (∀ u, r = some u → v = u) ∧ Same H0 H1 ∧ EnvS K C H1 F H L σ (se ρ i (.vl (.bw s (some v)) d)) ∧
    ∀ (F' H' : Hp) (σ' : L2.St) (ρ' ρ2 : Env), EnvS K C H1 F' H' L σ' ρ' → Ext F H1 F' → ρ' i = .vl (.bw s (some v)) d → ρ2 i = .vl (.ow s r) d → Back i ρ ρ' ρ2 → EnvS K C H0 F' H' L σ' ρ2 ∧ Ext F H0 F' := by
  obtain ⟨gp, o1, o2⟩ := k.sl
  obtain ⟨v, h1, h2, h3, h4⟩ := o1 i _ d hi
  let H1 : Hp := fun a => if a ∈ gp i then H a else H0 a
  have inH : ∀ a ∈ gp i, H1 a = H a := fun a h => if_pos h
  have outH : ∀ a, a ∉ gp i → H1 a = H0 a := fun a h => if_neg h
  have s01 : Same H0 H1 := fun a u z => by
    by_cases y : a ∈ gp i
    · rw [(h4 a y).2] at z; cases z
    · rw [outH a y]; exact z
  have s1 : Same H1 H := fun a u z => by
    by_cases y : a ∈ gp i
    · rw [inH a y] at z; exact z
    · rw [outH a y] at z; exact k.same a u z
  have ext0 : ∀ {F' : Hp}, Ext F H1 F' → Ext F H0 F' := fun x => ⟨x.up, fun a u z => (x.new a u z).imp id fun n => none_back s01 n⟩
  refine ⟨v, H1, h2, s01, ⟨s1, k.sub, k.len, gp, fun j m e q => ?_, fun a b s r d t q e n e1 e2 y hy => ?_⟩, fun F' H' σ' ρ' ρ2 k' x hb hb2 bk => ⟨?_, ext0 x⟩⟩
  · by_cases z : j = i
    · subst z
      rw [se_same] at q
      cases q
      exact ⟨v, h1, (fun u e => by cases e; rfl), h3, fun a ha => ⟨(h4 a ha).1, by rw [inH a ha]; exact h3.live a ha⟩⟩
    · rw [se_ne _ _ z] at q
      obtain ⟨u, q1, q2⟩ := o1 j m e q
      refine ⟨u, q1, ?_⟩
      cases m with
      | fz => exact q2
      | bw t q' => exact ⟨q2.1, q2.2.1, fun a ha => ⟨(q2.2.2 a ha).1, by
          obtain ⟨o, e'⟩ := (q2.2.2 a ha).2
          exact ⟨o, s01 a o e'⟩⟩⟩
      | ow t q' => exact ⟨q2.1, q2.2.1, fun a ha => ⟨(q2.2.2 a ha).1, by
          rw [outH a (o2 j i t q' e s r d z q hi a ha)]
          exact (q2.2.2 a ha).2⟩⟩
  · have na : a ≠ i := fun z => by subst z; rw [se_same] at e1; cases e1
    have nb : b ≠ i := fun z => by subst z; rw [se_same] at e2; cases e2
    rw [se_ne _ _ na] at e1
    rw [se_ne _ _ nb] at e2
    exact o2 a b s r d t q e n e1 e2 y hy
  · obtain ⟨hp, p1, p2⟩ := k'.sl
    obtain ⟨v', z1, z2, z3, z4⟩ := p1 i _ d hb
    have ev := z2 v rfl
    subst ev
    -- what was lent or borrowed lies as it did
    have old : ∀ (t : Sh) (w : V) (e : D) (fq : List Addr), Ow K C F H t w e fq → (∀ a ∈ fq, F a = none ∧ ∃ o, H1 a = some o ∧ H a = some o) → Ow K C F' H' t w e fq ∧ ∀ a ∈ fq, F' a = none := fun t w e fq ow n =>
      ⟨ow.mono x.up fun a ha => by
        obtain ⟨_, o, e1, e2⟩ := n a ha
        exact (k'.same a o e1).trans e2.symm, fun a ha => by
        cases q : F' a with
        | none => rfl
        | some u =>
          obtain ⟨n1, o, e1, _⟩ := n a ha
          rcases x.new a u q with ⟨_, z⟩ | z
          · rw [n1] at z; cases z
          · rw [e1] at z; cases z⟩
    obtain ⟨w, fn⟩ := old s v' d (gp i) h3 fun a ha => by
      obtain ⟨o, e'⟩ := h3.live a ha
      exact ⟨(h4 a ha).1, o, (inH a ha).trans e', e'⟩
    let fp2 : Nat → List Addr := fun j => if j = i then gp i else (match ρ2 j with | .vl (.bw _ _) _ => gp j | _ => hp j)
    have fpi : fp2 i = gp i := if_pos rfl
    have fpb : ∀ j s r d, j ≠ i → ρ2 j = .vl (.bw s r) d → fp2 j = gp j := fun j s r d n e => by
      show (if j = i then gp i else _) = _
      rw [if_neg n, e]
    have fpo : ∀ j, j ≠ i → (∀ s r d, ρ2 j ≠ .vl (.bw s r) d) → fp2 j = hp j := fun j n e => by
      show (if j = i then gp i else _) = _
      rw [if_neg n]
      split
      · rename_i s r d q
        exact (e s r d q).elim
      · rfl
    refine ⟨s01.trans k'.same, k'.sub, k'.len, fp2, fun j m e q => ?_, fun a b s r d t q e n e1 e2 y hy => ?_⟩
    · by_cases z : j = i
      · subst z
        rw [hb2] at q
        cases q
        refine ⟨v', z1, h2, ?_⟩
        rw [fpi]
        exact ⟨w, fun a ha => ⟨fn a ha, (h4 a ha).2⟩⟩
      · rcases bk j z with q0 | ⟨q0, nb⟩ | ⟨t, v2, e2, q1, q2, q3⟩
        · rw [q0] at q; cases q
        · have nb2 : ∀ s r d, ρ2 j ≠ .vl (.bw s r) d := fun s r d h => nb s r d (q0 ▸ h)
          rw [fpo j z nb2]
          rw [q0] at q
          obtain ⟨u, y1, y2⟩ := p1 j m e q
          refine ⟨u, y1, ?_⟩
          cases m with
          | fz => exact y2
          | bw t q' => exact (nb _ _ _ q).elim
          | ow t q' => exact ⟨y2.1, y2.2.1, fun a ha => ⟨(y2.2.2 a ha).1, none_back s01 (y2.2.2 a ha).2⟩⟩
        · rw [q1] at q
          cases q
          rw [fpb j _ _ _ z q1]
          obtain ⟨u, y1, y2⟩ := o1 j _ _ q2
          obtain ⟨u', y1', y2'⟩ := p1 j _ _ q3
          have ee := y2'.1 v2 rfl
          have ee2 := y2.1 v2 rfl
          subst ee
          subst ee2
          obtain ⟨w2, n2⟩ := old _ _ _ (gp j) y2.2.1 fun a ha => by
            obtain ⟨n1, o, e'⟩ := y2.2.2 a ha
            exact ⟨n1, o, s01 a o e', k.same a o e'⟩
          exact ⟨_, y1', y2'.1, w2, fun a ha => ⟨n2 a ha, (y2.2.2 a ha).2⟩⟩
    · have oth : ∀ j t q e, j ≠ i → ρ2 j = .vl (.ow t q) e → ρ' j = .vl (.ow t q) e ∧ fp2 j = hp j := fun j t q e z h => by
        refine ⟨?_, fpo j z fun s r d hh => by rw [h] at hh; cases hh⟩
        rcases bk j z with q0 | ⟨q0, _⟩ | ⟨_, _, _, q1, _, _⟩
        · rw [q0] at h; cases h
        · rw [← q0]; exact h
        · rw [q1] at h; cases h
      have sep : ∀ j t q e, j ≠ i → ρ2 j = .vl (.ow t q) e → ∀ y ∈ gp i, y ∉ hp j := fun j t q e z h y hy hz => by
        obtain ⟨h', _⟩ := oth j t q e z h
        obtain ⟨u, _, y2⟩ := p1 j _ _ h'
        have n0 := (y2.2.2 y hz).2
        obtain ⟨o, e'⟩ := h3.live y hy
        rw [inH y hy, e'] at n0
        cases n0
      by_cases za : a = i
      · have zb : b ≠ i := fun z => n (za.trans z.symm)
        subst za
        rw [fpi] at hy
        rw [(oth b _ _ _ zb e2).2]
        exact sep b _ _ _ zb e2 y hy
      · rw [(oth a _ _ _ za e1).2] at hy
        by_cases zb : b = i
        · subst zb
          rw [fpi]
          exact fun hz => sep a _ _ _ za e1 y hz hy
        · rw [(oth b _ _ _ zb e2).2]
          exact p2 a b s r d t q e n (oth a _ _ _ za e1).1 (oth b _ _ _ zb e2).1 y hy
end
end Tx

set_option Elab.async false
set_option linter.all false
set_option maxRecDepth 100000
set_option maxHeartbeats 4000000
/-! A5: operators and built-ins on data, and what they ask of the heap. -/
namespace Tx
open PySem L2 En

/-! ### operators on data -/
def intD2 (f : Int → Int → D) : D → D → R D
  | .int i, .int j => .ok (f i j)
  | _, _ => .no
def addD : D → D → R D := intD2 fun i j => .int (i + j)
def subD : D → D → R D := intD2 fun i j => .int (i - j)
def intR (g : Int → Int → R Int) : D → D → R D
  | .int i, .int j => (g i j).map .int
  | _, _ => .no
def mulD : D → D → R D := intR mulR
def divD : D → D → R D := intR divR
def modD : D → D → R D := intR modR
def powD : D → D → R D := intR powR
def negD : D → R D
  | .int i => .ok (.int (-i))
  | _ => .no
def ltD : D → D → R D := intD2 fun i j => .bool (decide (i < j))
def leD : D → D → R D := intD2 fun i j => .bool (decide (i ≤ j))
def gtD : D → D → R D := intD2 fun i j => .bool (decide (j < i))
def geD : D → D → R D := intD2 fun i j => .bool (decide (j ≤ i))
def eqV2 (x y : D) : R D := (eqD x y).map .bool
def neV2 (x y : D) : R D := (eqD x y).map fun b => .bool (!b)
def isNoneD : D → D → R D
  | .none, .none => .ok (.bool true)
  | _, .none => .ok (.bool false)
  | _, _ => .no
def isNotNoneD : D → D → R D
  | .none, .none => .ok (.bool false)
  | _, .none => .ok (.bool true)
  | _, _ => .no
/-- x is True -/
def isBoolD : D → D → R D
  | .bool a, .bool b => .ok (.bool (a == b))
  | _, _ => .no
def catD : D → D → R D
  | .list xs, .list ys => if xs.length + ys.length ≤ big then .ok (.list (xs ++ ys)) else .no
  | _, _ => .no
def repD : D → D → R D
  | .list xs, .int k => if -(2 ^ 63) ≤ k ∧ k < 2 ^ 63 ∧ xs.length * k.toNat ≤ big then .ok (.list (List.replicate k.toNat xs).flatten) else .no
  | _, _ => .no
def catTD : D → D → R D
  | .tuple xs, .tuple ys => if xs.length + ys.length ≤ big ∧ xs ≠ [] ∧ ys ≠ [] then .ok (.tuple (xs ++ ys)) else .no
  | _, _ => .no
def itemAt (xs : List D) (i : Int) : R D := ixR xs i
def ixD : D → D → R D
  | .list xs, .int i => itemAt xs i
  | .tuple xs, .int i => itemAt xs i
  | _, _ => .no
def inD (x : D) : D → R D
  | .list xs => if flatD x && xs.all flatD then .ok (.bool (xs.any fun y => eqF y x)) else .no
  | .tuple xs => if flatD x && xs.all flatD then .ok (.bool (xs.any fun y => eqF y x)) else .no
  | _ => .no
def notInD (x : D) : D → R D
  | .list xs => if flatD x && xs.all flatD then .ok (.bool (!xs.any fun y => eqF y x)) else .no
  | .tuple xs => if flatD x && xs.all flatD then .ok (.bool (!xs.any fun y => eqF y x)) else .no
  | _ => .no
/-! ### built-ins on data -/
def fLen : List D → R D
  | [.list xs] => .ok (.int xs.length)
  | [.tuple xs] => .ok (.int xs.length)
  | _ => .no
def fAbs : List D → R D
  | [.int i] => .ok (.int (if i < 0 then -i else i))
  | _ => .no
def fMax2 : List D → R D
  | [.int i, .int j] => .ok (.int (if j > i then j else i))
  | _ => .no
def fMin2 : List D → R D
  | [.int i, .int j] => .ok (.int (if j < i then j else i))
  | _ => .no
def fInt : List D → R D
  | [.int i] => .ok (.int i)
  | [.bool b] => .ok (.int (if b then 1 else 0))
  | _ => .no
def fList : List D → R D
  | [.list xs] => .ok (.list xs)
  | [.tuple xs] => .ok (.list xs)
  | _ => .no
def fTuple : List D → R D
  | [.list xs] => .ok (.tuple xs)
  | [.tuple xs] => .ok (.tuple xs)
  | _ => .no
def asInts : List D → Option (List Int)
  | [] => some []
  | .int i :: r => (asInts r).map (i :: ·)
  | _ :: _ => none
def asBools : List D → Option (List Bool)
  | [] => some []
  | .bool i :: r => (asBools r).map (i :: ·)
  | _ :: _ => none
def fSum : List D → R D
  | [.list xs] => (match asInts xs with
    | some ns => .ok (.int ns.sum)
    | none => .no)
  | _ => .no
def fAny : List D → R D
  | [.list xs] => (match asBools xs with
    | some bs => .ok (.bool (bs.any id))
    | none => .no)
  | _ => .no
def fAll : List D → R D
  | [.list xs] => (match asBools xs with
    | some bs => .ok (.bool (bs.all id))
    | none => .no)
  | _ => .no
def fSorted : List D → R D
  | [.list xs] => (match asInts xs with
    | some ns => .ok (.list ((sortI ns).map .int))
    | none => .no)
  | _ => .no
def fGcd : List D → R D
  | [.int a, .int b] => .ok (.int (gcdI a b))
  | _ => .no
def fRepr : List D → R D
  | [d] => (reprR d).map .str
  | _ => .no
def fIsBool : List D → R D
  | [.bool _] => .ok (.bool true)
  | [_] => .ok (.bool false)
  | _ => .no
def fIsList : List D → R D
  | [.list _] => .ok (.bool true)
  | [_] => .ok (.bool false)
  | _ => .no

/-- isinstance against a built-in type -/
def tyD : D → Option String
  | .none => some "NoneType"
  | .bool _ => some "bool"
  | .int _ => some "int"
  | .str _ => some "str"
  | .list _ => some "list"
  | .tuple _ => some "tuple"
  | .dict _ => none
def subT (t T : String) : Bool := t == T || (t == "bool" && T == "int")
def isiD (T : String) (d : D) : R D := match tyD d with
  | some t => .ok (.bool (subT t T))
  | none => .no

theorem hd_map {α β : Type} {E : XK} {W : Vp} {H : Hp} {r : R α} {f : α → β} {k : β → Prop} (h : Hd E W H (r.map f) k) : Hd E W H r fun a => k (f a) := by
  cases r with
  | ok a => exact h
  | ex c => exact h
  | no => exact h
theorem hd_unmap {α β : Type} {E : XK} {W : Vp} {H : Hp} {r : R α} {f : α → β} {k : β → Prop} (h : Hd E W H r fun a => k (f a)) : Hd E W H (r.map f) k := by
  cases r with
  | ok a => exact h
  | ex c => exact h
  | no => exact h
theorem asInts_eq : ∀ {ds : List D} {ns : List Int}, asInts ds = some ns → ds = ns.map PyData.int
  | [], _, h => by cases h; rfl
  | .int i :: r, ns, h => by
    cases q : asInts r with
    | none => rw [asInts, q] at h; cases h
    | some ms => rw [asInts, q] at h; cases h; rw [List.map_cons, asInts_eq q]
  | .none :: _, _, h => by cases h
  | .bool _ :: _, _, h => by cases h
  | .str _ :: _, _, h => by cases h
  | .list _ :: _, _, h => by cases h
  | .tuple _ :: _, _, h => by cases h
  | .dict _ :: _, _, h => by cases h
theorem asBools_eq : ∀ {ds : List D} {ns : List Bool}, asBools ds = some ns → ds = ns.map PyData.bool
  | [], _, h => by cases h; rfl
  | .bool i :: r, ns, h => by
    cases q : asBools r with
    | none => rw [asBools, q] at h; cases h
    | some ms => rw [asBools, q] at h; cases h; rw [List.map_cons, asBools_eq q]
  | .none :: _, _, h => by cases h
  | .int _ :: _, _, h => by cases h
  | .str _ :: _, _, h => by cases h
  | .list _ :: _, _, h => by cases h
  | .tuple _ :: _, _, h => by cases h
  | .dict _ :: _, _, h => by cases h
theorem RpA.ofIntsD {K : PySem.W.Frag} {C : Rc} {H : Hp} {vs : List V} {ds : List D} {ns : List Int} (r : RpA K C H vs ds) (e : asInts ds = some ns) : vs = ns.map V.int := by
  rw [asInts_eq e] at r; exact r.ofInts
theorem RpA.ofBoolsD {K : PySem.W.Frag} {C : Rc} {H : Hp} {vs : List V} {ds : List D} {ns : List Bool} (r : RpA K C H vs ds) (e : asBools ds = some ns) : vs = ns.map V.bl := by
  rw [asBools_eq e] at r; exact r.ofBools
/-- a two-place operation on data -/
def OpD (K : PySem.W.Frag) (r : R2) (f : D → D → R D) : Prop := ∀ (W : Vp) (E : XK) (F H : Hp) (x y : V) (d1 d2 : D) (Q : VK), Same F H → Rp K W.rc F x d1 → Rp K W.rc F y d2 → Hd E W H (f d1 d2) (VPost K W F H Q) → r x y H Q
def OpD1 (K : PySem.W.Frag) (r : V → Hp → VK → Prop) (f : D → R D) : Prop := ∀ (W : Vp) (E : XK) (F H : Hp) (x : V) (d : D) (Q : VK), Same F H → Rp K W.rc F x d → Hd E W H (f d) (VPost K W F H Q) → r x H Q
def OpDN (K : PySem.W.Frag) (r : R2) (f : D → D → R D) : Prop := ∀ (W : Vp) (E : XK) (F H : Hp) (x y : V) (d1 d2 : D) (Q : VK), Same F H → Rp K W.rc F x d1 → Rp K W.rc F y d2 → Hd E W H (f d1 d2) (NPost K W F H Q) → r x y H Q
def CaD (K : PySem.W.Frag) (r : List V → Hp → VK → Prop) (f : List D → R D) : Prop := ∀ (W : Vp) (E : XK) (F H : Hp) (vs : List V) (ds : List D) (Q : VK), Same F H → RpA K W.rc F vs ds → Hd E W H (f ds) (VPost K W F H Q) → r vs H Q
def CaDN (K : PySem.W.Frag) (r : List V → Hp → VK → Prop) (f : List D → R D) : Prop := ∀ (W : Vp) (E : XK) (F H : Hp) (vs : List V) (ds : List D) (Q : VK), Same F H → RpA K W.rc F vs ds → Hd E W H (f ds) (NPost K W F H Q) → r vs H Q
section
variable {K : PySem.W.Frag}
/-! ### operators -/
theorem o2_I0 {g : Int → Int → V} {f : Int → Int → D} (hg : ∀ K C H i j, Rp K C H (g i j) (f i j)) : OpD K (rI0 g) (intD2 f) := fun W E F H x y d1 d2 Q s r1 r2 m => by
  cases r1 with
  | int i =>
    cases r2 with
    | int j => exact ⟨i, j, rfl, rfl, m _ H F (Same.refl H) (Ext.refl F H) s (hg _ _ _ _ _)⟩
    | _ => exact False.elim m
  | _ => first | exact False.elim m | (cases r2 <;> exact False.elim m)
theorem o2_I {c : Int → Int → Prop} {g : Int → Int → V} {f : Int → Int → D} {h : D → D → R D} (hg : ∀ K C H i j, Rp K C H (g i j) (f i j)) (h1 : ∀ i j, ¬ c i j → h (.int i) (.int j) = .no) (h2 : ∀ i j, c i j → h (.int i) (.int j) = .ok (f i j))
    (h3 : ∀ a b, (∀ i j, a = .int i → b = .int j → False) → h a b = .no) : OpD K (rI c g) h := fun W E F H x y d1 d2 Q s r1 r2 m => by
  have no : (∀ i j, d1 = .int i → d2 = .int j → False) → False := fun z => by rw [h3 d1 d2 z] at m; exact m
  cases r1 with
  | int i =>
    cases r2 with
    | int j =>
      by_cases hc : c i j
      · rw [h2 i j hc] at m
        exact ⟨i, j, rfl, rfl, hc, m _ H F (Same.refl H) (Ext.refl F H) s (hg _ _ _ _ _)⟩
      · rw [h1 i j hc] at m; exact False.elim m
    | _ => exact (no fun _ _ a b => by cases b).elim
  | _ => exact (no fun _ _ a b => by cases a).elim
theorem o2_add : OpD K (rI0 fun i j => .int (i + j)) addD := o2_I0 fun _ _ _ i j => .int _
theorem o2_sub : OpD K (rI0 fun i j => .int (i - j)) subD := o2_I0 fun _ _ _ i j => .int _
theorem no_of {h : D → D → R D} (hi : ∀ a b, (∀ i j, a = PyData.int i → b = PyData.int j → False) → h a b = .no) : ∀ a b, (∀ i j, a = PyData.int i → b = PyData.int j → False) → h a b = .no := hi
theorem o2_R {c : Int → Int → Prop} {g : Int → Int → V} {h : Int → Int → R Int} {f : Int → Int → Int} (hg : ∀ i j, g i j = .int (f i j)) (h2 : ∀ i j z, h i j = .ok z → c i j ∧ z = f i j) (h3 : ∀ i j c, h i j ≠ .ex c) : OpD K (rI c g) (intR h) := fun W E F H x y d1 d2 Q s r1 r2 m => by
  cases r1 with
  | int i =>
    cases r2 with
    | int j =>
      have m : Hd E W H ((h i j).map .int) (VPost K W F H Q) := m
      cases q : h i j with
      | ok z =>
        rw [q] at m
        obtain ⟨hc, e⟩ := h2 i j z q
        exact ⟨i, j, rfl, rfl, hc, by rw [hg, ← e]; exact m _ H F (Same.refl H) (Ext.refl F H) s (.int _)⟩
      | ex c => exact (h3 i j c q).elim
      | no => rw [q] at m; exact False.elim m
    | _ => exact False.elim m
  | _ => cases r2 <;> exact False.elim m
theorem o2_mul : OpD K (rI (fun i j => CMul i j ∨ CMulW i j) fun i j => .int (i * j)) mulD := o2_R (f := fun i j => i * j) (fun _ _ => rfl) (fun i j z h => by
  unfold mulR at h
  split at h
  · rename_i q; cases h; exact ⟨q, rfl⟩
  · cases h) fun i j c h => by unfold mulR at h; split at h <;> cases h
theorem o2_div : OpD K (rI (fun i j => CDivN i j ∨ CDivW i j) fun i j => .int (i.fdiv j)) divD := o2_R (f := fun i j => i.fdiv j) (fun _ _ => rfl) (fun i j z h => by
  unfold divR at h
  split at h
  · rename_i q; cases h; exact ⟨q, rfl⟩
  · cases h) fun i j c h => by unfold divR at h; split at h <;> cases h
theorem o2_mod : OpD K (rI (fun _ j => j ≠ 0) fun i j => .int (i.fmod j)) modD := o2_R (f := fun i j => i.fmod j) (fun _ _ => rfl) (fun i j z h => by
  unfold modR at h
  split at h
  · rename_i q; cases h; exact ⟨q, rfl⟩
  · cases h) fun i j c h => by unfold modR at h; split at h <;> cases h
theorem o2_pow : OpD K (rI CPow fun i j => .int (i ^ j.toNat)) powD := o2_R (f := fun i j => i ^ j.toNat) (fun _ _ => rfl) (fun i j z h => by
  unfold powR at h
  split at h
  · rename_i q; cases h; exact ⟨q, rfl⟩
  · cases h) fun i j c h => by unfold powR at h; split at h <;> cases h
theorem op_mulB {X : Cx} : OpR X (binaryOp .Mult) (rI (fun i j => CMul i j ∨ CMulW i j) fun i j => .int (i * j)) := fun pins s σ H x y v u Q I rx ry ⟨i, j, e1, e2, c, q⟩ => by
  rcases c with c | c
  · exact op_mul pins s σ H x y v u Q I rx ry ⟨i, j, e1, e2, c, q⟩
  · exact op_mulW pins s σ H x y v u Q I rx ry ⟨i, j, e1, e2, c, q⟩
theorem op_divB {X : Cx} : OpR X (binaryOp .FloorDiv) (rI (fun i j => CDivN i j ∨ CDivW i j) fun i j => .int (i.fdiv j)) := fun pins s σ H x y v u Q I rx ry ⟨i, j, e1, e2, c, q⟩ => by
  rcases c with c | c
  · exact op_fdivN pins s σ H x y v u Q I rx ry ⟨i, j, e1, e2, c, q⟩
  · have h0 : (0 : Int) ≤ j := by have := c.1; omega
    have e := Int.fdiv_eq_ediv_of_nonneg i h0
    exact op_fdivW pins s σ H x y v u Q I rx ry ⟨i, j, e1, e2, c, by show Q (.int (i / j)) H; rw [← e]; exact q⟩
theorem o1_neg : OpD1 K (rU fun i => .int (-i)) negD := fun W E F H x d Q s r1 m => by
  cases r1 with
  | int i => exact ⟨i, rfl, m _ H F (Same.refl H) (Ext.refl F H) s (.int _)⟩
  | _ => exact False.elim m
theorem o2_lt : OpD K (rI0 fun i j => .bl (decide (i < j))) ltD := o2_I0 fun _ _ _ i j => .bl _
theorem o2_le : OpD K (rI0 fun i j => .bl (decide (i ≤ j))) leD := o2_I0 fun _ _ _ i j => .bl _
theorem o2_gt : OpD K (rI0 fun i j => .bl (decide (j < i))) gtD := o2_I0 fun _ _ _ i j => .bl _
theorem o2_ge : OpD K (rI0 fun i j => .bl (decide (j ≤ i))) geD := o2_I0 fun _ _ _ i j => .bl _
theorem okD_l {d : D} (h : okD d = true) : d.canLay0 = true := by
  unfold okD at h
  simp only [Bool.and_eq_true] at h
  exact h.1
/-- one of two readings -/
theorem op_or {X : Cx} {f : Value → Value → Sem Value} {r r' : R2} (h : OpR X f r) (h' : OpR X f r') : OpR X f (fun x y H Q => r x y H Q ∨ r' x y H Q) := fun pins s σ H x y v u Q I rx ry z => by
  rcases z with z | z
  · exact h pins s σ H x y v u Q I rx ry z
  · exact h' pins s σ H x y v u Q I rx ry z
theorem op_eqA {X : Cx} (hu : X.A.units + 64 < cLine) : OpR X (compareOp .Eq) (fun x y H Q => rEqD X.K x y H Q ∨ rEq x y H Q) := op_or (op_eqD hu) op_eq
theorem op_neA {X : Cx} (hu : X.A.units + 64 < cLine) : OpR X (compareOp .NotEq) (fun x y H Q => rNeD X.K x y H Q ∨ rNe x y H Q) := op_or (op_neD hu) op_ne
theorem eq_read {W : Vp} {E : XK} {F H : Hp} {x y : V} {d1 d2 : D} {k : Bool → Prop} (s : Same F H) (r1 : Rp K W.rc F x d1) (r2 : Rp K W.rc F y d2) (m : Hd E W H (eqD d1 d2) k) :
    (∃ a b, d1 = .str a ∧ d2 = .str b ∧ decide (x = y) = decide (a = b) ∧ scal x y = true ∧ k (decide (a = b))) ∨ (okD d1 = true ∧ okD d2 = true ∧ Dp K H x d1 ∧ Dp K H y d2 ∧ k (PyData.eqv d1 d2)) := by
  by_cases h : ∃ a b, d1 = .str a ∧ d2 = .str b
  · obtain ⟨a, b, rfl, rfl⟩ := h
    cases r1; cases r2
    refine .inl ⟨a, b, rfl, rfl, ?_, rfl, m⟩
    by_cases z : a = b
    · subst z; simp
    · rw [decide_eq_false z, decide_eq_false fun q => z (V.str.inj q)]
  · have e : eqD d1 d2 = if okD d1 && okD d2 then .ok (PyData.eqv d1 d2) else .no := by
      unfold eqD
      split
      · exact (h ⟨_, _, rfl, rfl⟩).elim
      · rfl
    rw [e] at m
    by_cases z : (okD d1 && okD d2) = true
    · rw [if_pos z] at m
      simp only [Bool.and_eq_true] at z
      exact .inr ⟨z.1, z.2, (r1.up s).dp _ _ (okD_l z.1), (r2.up s).dp _ _ (okD_l z.2), m⟩
    · rw [if_neg z] at m; exact False.elim m
theorem o2_eq : OpD K (fun x y H Q => rEqD K x y H Q ∨ rEq x y H Q) eqV2 := fun W E F H x y d1 d2 Q s r1 r2 m => by
  rcases eq_read s r1 r2 (hd_map m) with ⟨a, b, e1, e2, e3, e4, q⟩ | ⟨z1, z2, p1, p2, q⟩
  · exact .inr ⟨e4, by rw [e3]; exact q _ H F (Same.refl H) (Ext.refl F H) s (.bl _)⟩
  · exact .inl ⟨d1, d2, p1, p2, z1, z2, q _ H F (Same.refl H) (Ext.refl F H) s (.bl _)⟩
theorem o2_ne : OpD K (fun x y H Q => rNeD K x y H Q ∨ rNe x y H Q) neV2 := fun W E F H x y d1 d2 Q s r1 r2 m => by
  rcases eq_read s r1 r2 (hd_map m) with ⟨a, b, e1, e2, e3, e4, q⟩ | ⟨z1, z2, p1, p2, q⟩
  · exact .inr ⟨e4, by rw [e3]; exact q _ H F (Same.refl H) (Ext.refl F H) s (.bl _)⟩
  · exact .inl ⟨d1, d2, p1, p2, z1, z2, q _ H F (Same.refl H) (Ext.refl F H) s (.bl _)⟩
theorem o2_isN : OpD K (fun x y H Q => y = .non ∧ Q (.bl (decide (x = .non))) H) isNoneD := fun W E F H x y d1 d2 Q s r1 r2 m => by
  cases r2 with
  | non =>
    refine ⟨rfl, ?_⟩
    cases r1 <;> exact m _ H F (Same.refl H) (Ext.refl F H) s (.bl _)
  | _ => cases r1 <;> exact False.elim m
theorem o2_notN : OpD K (fun x y H Q => y = .non ∧ Q (.bl (!decide (x = .non))) H) isNotNoneD := fun W E F H x y d1 d2 Q s r1 r2 m => by
  cases r2 with
  | non =>
    refine ⟨rfl, ?_⟩
    cases r1 <;> exact m _ H F (Same.refl H) (Ext.refl F H) s (.bl _)
  | _ => cases r1 <;> exact False.elim m
theorem o2_isB : OpD K (fun x y H Q => ∃ a b, x = .bl a ∧ y = .bl b ∧ Q (.bl (decide (a = b))) H) isBoolD := fun W E F H x y d1 d2 Q s r1 r2 m => by
  cases r1 with
  | bl a =>
    cases r2 with
    | bl b =>
      refine ⟨a, b, rfl, rfl, m _ H F (Same.refl H) (Ext.refl F H) s ?_⟩
      cases a <;> cases b <;> exact .bl _
    | _ => exact False.elim m
  | _ => exact False.elim m
theorem flat_rp {C : Rc} {H : Hp} {v : V} {d : D} (r : Rp K C H v d) (h : flatD d = true) : flatV v = true := by
  cases r <;> first | rfl | cases h
theorem flat_rpa {C : Rc} {H : Hp} : ∀ {vs : List V} {ds : List D}, RpA K C H vs ds → ds.all flatD = true → vs.all flatV = true
  | _, _, .nil, _ => rfl
  | _, _, .cons r t, h => by
    rw [List.all_cons, Bool.and_eq_true] at h ⊢
    exact ⟨flat_rp r h.1, flat_rpa t h.2⟩
theorem eqF_rp {C : Rc} {H H' : Hp} {x y : V} {d e : D} (r : Rp K C H x d) (q : Rp K C H' y e) (h : flatD d = true) (h' : flatD e = true) : eqV x y = eqF d e := by
  cases r <;> first | (cases h; done) | (cases q <;> first | (cases h'; done) | rfl | skip)
theorem inV_rp {C : Rc} {H H' : Hp} {x : V} {d : D} (r : Rp K C H' x d) (h : flatD d = true) : ∀ {vs : List V} {ds : List D}, RpA K C H vs ds → ds.all flatD = true → inV x vs = ds.any fun y => eqF y d
  | _, _, .nil, _ => rfl
  | _, _, .cons q t, z => by
    rw [List.all_cons, Bool.and_eq_true] at z
    unfold inV
    rw [List.any_cons, List.any_cons, eqF_rp q r z.1 h]
    have := inV_rp r h t z.2
    unfold inV at this
    rw [this]
theorem o2_in : OpD K (rIn K false) inD := fun W E F H x y d1 d2 Q s r1 r2 m => by
  cases r2 with
  | lst h1 h2 =>
    rename_i a xs ds
    unfold inD at m
    by_cases z : (flatD d1 && ds.all flatD) = true
    · simp only [z, if_true] at m
      rw [Bool.and_eq_true] at z
      refine ⟨a, xs, rfl, .inl (sqr_l (sqr_mono s h1)), flat_rp r1 z.1, flat_rpa h2 z.2, ?_⟩
      show Q (.bl (inV x xs)) H
      rw [inV_rp r1 z.1 h2 z.2]
      exact m _ H F (Same.refl H) (Ext.refl F H) s (.bl _)
    · simp only [z] at m; exact False.elim m
  | tup h1 h2 =>
    rename_i a xs ds
    unfold inD at m
    by_cases z : (flatD d1 && ds.all flatD) = true
    · simp only [z, if_true] at m
      rw [Bool.and_eq_true] at z
      refine ⟨a, xs, rfl, .inr (sqt_mono s h1), flat_rp r1 z.1, flat_rpa h2 z.2, ?_⟩
      show Q (.bl (inV x xs)) H
      rw [inV_rp r1 z.1 h2 z.2]
      exact m _ H F (Same.refl H) (Ext.refl F H) s (.bl _)
    · simp only [z] at m; exact False.elim m
  | _ => exact False.elim m
theorem o2_notIn : OpD K (rIn K true) notInD := fun W E F H x y d1 d2 Q s r1 r2 m => by
  cases r2 with
  | lst h1 h2 =>
    rename_i a xs ds
    unfold notInD at m
    by_cases z : (flatD d1 && ds.all flatD) = true
    · simp only [z, if_true] at m
      rw [Bool.and_eq_true] at z
      refine ⟨a, xs, rfl, .inl (sqr_l (sqr_mono s h1)), flat_rp r1 z.1, flat_rpa h2 z.2, ?_⟩
      show Q (.bl (!inV x xs)) H
      rw [inV_rp r1 z.1 h2 z.2]
      exact m _ H F (Same.refl H) (Ext.refl F H) s (.bl _)
    · simp only [z] at m; exact False.elim m
  | tup h1 h2 =>
    rename_i a xs ds
    unfold notInD at m
    by_cases z : (flatD d1 && ds.all flatD) = true
    · simp only [z, if_true] at m
      rw [Bool.and_eq_true] at z
      refine ⟨a, xs, rfl, .inr (sqt_mono s h1), flat_rp r1 z.1, flat_rpa h2 z.2, ?_⟩
      show Q (.bl (!inV x xs)) H
      rw [inV_rp r1 z.1 h2 z.2]
      exact m _ H F (Same.refl H) (Ext.refl F H) s (.bl _)
    · simp only [z] at m; exact False.elim m
  | _ => exact False.elim m
theorem itemAt_rp {C : Rc} {H : Hp} {W : Vp} {E : XK} {G : Hp} {k : D → Prop} {xs : List V} {ds : List D} {i : Int} (r : RpA K C H xs ds) (m : Hd E W G (itemAt ds i) k) : ∃ v d, atI xs i = some v ∧ Rp K C H v d ∧ k d := by
  unfold itemAt ixR at m
  cases q : ixAt ds.length i with
  | none => rw [q] at m; exact False.elim m
  | some j =>
    rw [q] at m
    cases z : ds[j]? with
    | none => simp only [z] at m; exact False.elim m
    | some d =>
      simp only [z] at m
      obtain ⟨v, h1, h2⟩ := r.get z
      refine ⟨v, d, ?_, h2, m⟩
      have q' : ixN xs.length i = some j := by rw [r.len]; exact q
      show (ixN xs.length i).bind (fun j => xs[j]?) = some v
      rw [q']
      exact h1
theorem o2_ix : OpD K (rIx K) ixD := fun W E F H x y d1 d2 Q s r1 r2 m => by
  cases r1 with
  | lst h1 h2 =>
    cases r2 with
    | int i =>
      obtain ⟨v, d, a, b, c⟩ := itemAt_rp h2 m
      exact .inl ⟨_, _, i, v, rfl, rfl, sqr_l (sqr_mono s h1), a, c v H F (Same.refl H) (Ext.refl F H) s b⟩
    | _ => exact False.elim m
  | tup h1 h2 =>
    cases r2 with
    | int i =>
      obtain ⟨v, d, a, b, c⟩ := itemAt_rp h2 m
      exact .inr (.inl ⟨_, _, i, v, rfl, rfl, sqt_mono s h1, a, c v H F (Same.refl H) (Ext.refl F H) s b⟩)
    | _ => exact False.elim m
  | _ => cases r2 <;> exact False.elim m
/-- list + list, whoever holds them -/
def rCatR (K : PySem.W.Frag) : R2 := fun x y H Q => ∃ l b xs zs, x = .ref l ∧ y = .ref b ∧ SqR K H l xs ∧ SqR K H b zs ∧ xs.length + zs.length ≤ sizeLine ∧ ∀ p, H p = none → Q (.ref p) (upd H p (.lst (xs ++ zs)))
theorem lst_of {X : Cx} {pins : List (Addr × Obj)} {σ : L2.St} {H : Hp} {s : Shared} {l : Addr} {xs : List V} (I : Inv X pins σ H s) (hH : SqR X.K H l xs) :
    xs.length ≤ sizeLine ∧ ∃ (its : List Value) (n : Nat), Vals xs its ∧ xs.length = its.length ∧ s.heap.get? l = some { cls := .type "list", data := .seq its.toArray n } := by
  rcases hH with hH | ⟨its, n, h1, h2, r⟩
  · have ok : ObjOk X.prog X.w H s.heap l (.lst xs) := hH.ok I.hok
    obtain ⟨a, its, n, r, q⟩ := ok
    exact ⟨a, its, n, r, r.length, q⟩
  · have z := r.length
    have e : its.toList.toArray = its := by simp
    exact ⟨by rw [z]; simpa using h2, its.toList, n, r, z, by rw [e]; exact I.kIn l _ h1⟩
theorem op_catR {X : Cx} : OpR X (binaryOp .Add) (rCatR X.K) := fun pins s σ H x y v u Q I rx ry ⟨l, b, xs, zs, ex, ey, h1, h2, hz, q⟩ => by
  subst ex; subst ey
  cases rx; cases ry
  obtain ⟨_, us, n, r, l1, e⟩ := lst_of I h1
  obtain ⟨_, ws, n', r', l2, e'⟩ := lst_of I h2
  refine PySem.P.add_list e e' ?_ (by simp only [List.size_toArray]; omega)
  rw [show us.toArray ++ ws.toArray = (us ++ ws).toArray from by simp]
  refine ⟨.ref s.heap.objs.size, _, I.lnew (t' := s.toks) (Vals.append r r') (by simpa using hz), rfl, q _ I.fresh⟩
theorem on_cat : OpDN K (rCatR K) catD := fun W E F H x y d1 d2 Q s r1 r2 m => by
  cases r1 with
  | lst h1 h2 =>
    cases r2 with
    | lst h3 h4 =>
      rename_i a xs ds b ys es
      have m : Hd E W H (if ds.length + es.length ≤ big then .ok (.list (ds ++ es)) else .no) (NPost K W F H Q) := m
      by_cases z : ds.length + es.length ≤ big
      · rw [if_pos z] at m
        refine ⟨a, b, xs, ys, rfl, rfl, sqr_mono s h1, sqr_mono s h3, by rw [h2.len, h4.len]; exact Nat.le_trans z big_le, fun p hp => ?_⟩
        exact m p (xs ++ ys) (ds ++ es) _ F rfl (same_upd hp) (Ext.refl F H) (s.trans (same_upd hp)) hp (none_back s hp) upd_same (h2.app h4)
      · rw [if_neg z] at m; exact False.elim m
    | _ => exact False.elim m
  | _ => cases r2 <;> exact False.elim m
/-- list * int, whoever holds the list -/
def rRepR (K : PySem.W.Frag) : R2 := fun x y H Q => ∃ l k xs, x = .ref l ∧ y = .int k ∧ SqR K H l xs ∧ -(2 ^ 63) ≤ k ∧ k < 2 ^ 63 ∧ xs.length * k.toNat ≤ sizeLine ∧ ∀ p, H p = none → Q (.ref p) (upd H p (.lst (List.replicate k.toNat xs).flatten))
theorem rep_arr (us : List Value) (k : Nat) : List.foldl (fun a b => a ++ b) #[] (List.replicate (if us.toArray.isEmpty = true then 0 else k) us.toArray) = (List.replicate k us).flatten.toArray := by
  have gen : ∀ m : Nat, List.foldl (fun a b => a ++ b) #[] (List.replicate m us.toArray) = (List.replicate m us).flatten.toArray := fun m => by
    have z := foldl_rep us m []
    rw [List.nil_append] at z
    exact z
  rw [gen]
  cases us with
  | nil => simp
  | cons a r => rw [if_neg (by simp)]
theorem op_repR {X : Cx} : OpR X (binaryOp .Mult) (rRepR X.K) := fun pins s σ H x y v u Q I rx ry ⟨l, k, xs, ex, ey, h1, k1, k2, hz, q⟩ => by
  subst ex; subst ey
  cases rx
  obtain ⟨t, rfl⟩ := ry
  obtain ⟨_, us, n, r, l1, e⟩ := lst_of I h1
  have len1 : us.toArray.size * k.toNat ≤ sizeLine := by rw [List.size_toArray, ← l1]; exact hz
  have top : (sizeLine : Nat) ≤ (2 ^ 63 - 1) / 8 := by decide
  have c1 : ¬ us.toArray.size * k.toNat > (2 ^ 63 - 1) / 8 := fun w => absurd w (by omega)
  have c2 : ¬ (!Builtin.List.listFitsIndex k) = true := by rw [fitsIndex_both k1 k2]; decide
  have c3 : ¬ Builtin.List.listTooLong (us.toArray.size * k.toNat) = true := by rw [notLongL len1]; decide
  have own : ∃ o : Obj, s.heap.get? l = some o ∧ o.cls = .type "list" := ⟨_, e, rfl⟩
  refine PySem.wpAny_binaryOp_repeat_ref (T := "list") (U := "int") (by decide) own (fun s' => typeIs_int s' k t) PySem.noFill_list_mul F.fills_int_mul F.slot_int_rmul PySem.repeat_list F.slot_int_index.lookup ?_
  refine call_meets F.slot_int_rmul (typeIs_int s k t) F.entry_int_rmul (F.args_int_rmul_2 _ _) (PySem.int___rmul___int_list k t l us.toArray n) ⟨e, rfl, own, ?_⟩
  refine call_meets F.slot_list_mul own F.entry_list_mul (F.args_list_mul_2 _ _) (AutoListH.list___mul___list_int_3 l us.toArray n k t c2 c1 c3) ⟨e, ?_⟩
  rw [rep_arr us k.toNat]
  refine ⟨.ref s.heap.objs.size, _, I.lnew (t' := s.toks) (r.rep k.toNat) ?_, rfl, q _ I.fresh⟩
  rw [PyProof.Rows.lm_len_rep_flat, Nat.mul_comm]
  exact hz
theorem on_rep : OpDN K (rRepR K) repD := fun W E F H x y d1 d2 Q s r1 r2 m => by
  cases r1 with
  | lst h1 h2 =>
    cases r2 with
    | int k =>
      rename_i a xs ds
      have m : Hd E W H (if -(2 ^ 63) ≤ k ∧ k < 2 ^ 63 ∧ ds.length * k.toNat ≤ big then .ok (.list (List.replicate k.toNat ds).flatten) else .no) (NPost K W F H Q) := m
      by_cases z : -(2 ^ 63) ≤ k ∧ k < 2 ^ 63 ∧ ds.length * k.toNat ≤ big
      · rw [if_pos z] at m
        refine ⟨a, k, xs, rfl, rfl, sqr_mono s h1, z.1, z.2.1, by rw [h2.len]; exact Nat.le_trans z.2.2 big_le, fun p hp => ?_⟩
        exact m p _ (List.replicate k.toNat ds).flatten _ F rfl (same_upd hp) (Ext.refl F H) (s.trans (same_upd hp)) hp (none_back s hp) upd_same (h2.rep k.toNat)
      · rw [if_neg z] at m; exact False.elim m
    | _ => exact False.elim m
  | _ => cases r2 <;> exact False.elim m
end
section
variable {K : PySem.W.Frag} {C : Rc} {F : Hp}
theorem one_of {vs : List V} {ds : List D} (r : RpA K C F vs ds) : (∃ v d, vs = [v] ∧ ds = [d] ∧ Rp K C F v d) ∨ ∀ d, ds ≠ [d] := by
  cases r with
  | nil => exact .inr fun _ e => by cases e
  | cons r t =>
    cases t with
    | nil => exact .inl ⟨_, _, rfl, rfl, r⟩
    | cons _ _ => exact .inr fun _ e => by cases e
theorem two_of {vs : List V} {ds : List D} (r : RpA K C F vs ds) : (∃ v w d e, vs = [v, w] ∧ ds = [d, e] ∧ Rp K C F v d ∧ Rp K C F w e) ∨ ∀ d e, ds ≠ [d, e] := by
  cases r with
  | nil => exact .inr fun _ _ e => by cases e
  | cons r t =>
    cases t with
    | nil => exact .inr fun _ _ e => by cases e
    | cons r2 t2 =>
      cases t2 with
      | nil => exact .inl ⟨_, _, _, _, rfl, rfl, r, r2⟩
      | cons _ _ => exact .inr fun _ _ e => by cases e
theorem two_ints {vs : List V} {ds : List D} (r : RpA K C F vs ds) : (∃ i j, vs = [.int i, .int j] ∧ ds = [.int i, .int j]) ∨ ∀ i j, ds ≠ [.int i, .int j] := by
  rcases two_of r with ⟨v, w, d, e, rfl, rfl, r1, r2⟩ | z
  · cases r1 with
    | int i =>
      cases r2 with
      | int j => exact .inl ⟨i, j, rfl, rfl⟩
      | _ => exact .inr fun _ _ e => by cases e
    | _ => exact .inr fun _ _ e => by cases e
  · exact .inr fun i j => z _ _
end
section
variable {K : PySem.W.Frag}
/-! ### built-ins -/
/-- a built-in of one argument -/
theorem ca_one {r : List V → Hp → VK → Prop} {f : List D → R D} (h : ∀ (W : Vp) (E : XK) (F H : Hp) (v : V) (d : D) (Q : VK), Same F H → Rp K W.rc F v d → Hd E W H (f [d]) (VPost K W F H Q) → r [v] H Q) (no : ∀ ds, (∀ d, ds ≠ [d]) → f ds = .no) : CaD K r f := fun W E F H vs ds Q s q m => by
  rcases one_of q with ⟨v, d, rfl, rfl, z⟩ | z
  · exact h W E F H v d Q s z m
  · rw [no ds z] at m; exact False.elim m
theorem cn_one {r : List V → Hp → VK → Prop} {f : List D → R D} (h : ∀ (W : Vp) (E : XK) (F H : Hp) (v : V) (d : D) (Q : VK), Same F H → Rp K W.rc F v d → Hd E W H (f [d]) (NPost K W F H Q) → r [v] H Q) (no : ∀ ds, (∀ d, ds ≠ [d]) → f ds = .no) : CaDN K r f := fun W E F H vs ds Q s q m => by
  rcases one_of q with ⟨v, d, rfl, rfl, z⟩ | z
  · exact h W E F H v d Q s z m
  · rw [no ds z] at m; exact False.elim m
theorem not_one {f : D → R D} {ds : List D} {g : List D → R D} (hg : ∀ d, g [d] = f d) (h0 : g [] = .no) (h2 : ∀ a b r, g (a :: b :: r) = .no) (z : ∀ d, ds ≠ [d]) : g ds = .no := by
  cases ds with
  | nil => exact h0
  | cons a r =>
    cases r with
    | nil => exact (z a rfl).elim
    | cons b r => exact h2 a b r
theorem ca_len : CaD K (fun xs H Q => ∃ p ys, xs = [.ref p] ∧ (SqL K H p ys ∨ SqT K H p ys) ∧ Q (.int ys.length) H) fLen := ca_one (fun W E F H v d Q s r m => by
  cases r with
  | lst h1 h2 =>
    refine ⟨_, _, rfl, .inl (sqr_l (sqr_mono s h1)), ?_⟩
    rw [h2.len]
    exact m _ H F (Same.refl H) (Ext.refl F H) s (.int _)
  | tup h1 h2 =>
    refine ⟨_, _, rfl, .inr (sqt_mono s h1), ?_⟩
    rw [h2.len]
    exact m _ H F (Same.refl H) (Ext.refl F H) s (.int _)
  | _ => exact False.elim m) fun ds z => not_one (g := fLen) (f := fun d => fLen [d]) (fun _ => rfl) rfl (fun a b r => by cases a <;> rfl) z
theorem ca_abs : CaD K (fun xs H Q => ∃ i, xs = [.int i] ∧ Q (.int (if i < 0 then -i else i)) H) fAbs := ca_one (fun W E F H v d Q s r m => by
  cases r with
  | int i => exact ⟨i, rfl, m _ H F (Same.refl H) (Ext.refl F H) s (.int _)⟩
  | _ => exact False.elim m) fun ds z => not_one (g := fAbs) (f := fun d => fAbs [d]) (fun _ => rfl) rfl (fun a b r => by cases a <;> rfl) z
theorem ca_int : CaD K (fun xs H Q => (∃ i, xs = [.int i] ∧ Q (.int i) H) ∨ ∃ k, xs = [.bl k] ∧ Q (.int (if k then 1 else 0)) H) fInt := ca_one (fun W E F H v d Q s r m => by
  cases r with
  | int i => exact .inl ⟨i, rfl, m _ H F (Same.refl H) (Ext.refl F H) s (.int _)⟩
  | bl i => exact .inr ⟨i, rfl, m _ H F (Same.refl H) (Ext.refl F H) s (.int _)⟩
  | _ => exact False.elim m) fun ds z => not_one (g := fInt) (f := fun d => fInt [d]) (fun _ => rfl) rfl (fun a b r => by cases a <;> rfl) z
theorem ca_sum : CaD K (rSum K) fSum := ca_one (fun W E F H v d Q s r m => by
  cases r with
  | lst h1 h2 =>
    rename_i a xs ds
    have m : Hd E W H (match asInts ds with | some ns => R.ok (.int ns.sum) | none => .no) (VPost K W F H Q) := m
    cases q : asInts ds with
    | none => rw [q] at m; exact False.elim m
    | some ns =>
      rw [q] at m
      exact ⟨a, ns, rfl, sqr_l (by rw [← h2.ofIntsD q]; exact sqr_mono s h1), m _ H F (Same.refl H) (Ext.refl F H) s (.int _)⟩
  | _ => exact False.elim m) fun ds z => not_one (g := fSum) (f := fun d => fSum [d]) (fun _ => rfl) rfl (fun a b r => by cases a <;> rfl) z
theorem ca_any : CaD K (rAny K) fAny := ca_one (fun W E F H v d Q s r m => by
  cases r with
  | lst h1 h2 =>
    rename_i a xs ds
    have m : Hd E W H (match asBools ds with | some ns => R.ok (.bool (ns.any id)) | none => .no) (VPost K W F H Q) := m
    cases q : asBools ds with
    | none => rw [q] at m; exact False.elim m
    | some ns =>
      rw [q] at m
      exact ⟨a, ns, rfl, sqr_l (by rw [← h2.ofBoolsD q]; exact sqr_mono s h1), m _ H F (Same.refl H) (Ext.refl F H) s (.bl _)⟩
  | _ => exact False.elim m) fun ds z => not_one (g := fAny) (f := fun d => fAny [d]) (fun _ => rfl) rfl (fun a b r => by cases a <;> rfl) z
theorem ca_all : CaD K (rAll K) fAll := ca_one (fun W E F H v d Q s r m => by
  cases r with
  | lst h1 h2 =>
    rename_i a xs ds
    have m : Hd E W H (match asBools ds with | some ns => R.ok (.bool (ns.all id)) | none => .no) (VPost K W F H Q) := m
    cases q : asBools ds with
    | none => rw [q] at m; exact False.elim m
    | some ns =>
      rw [q] at m
      exact ⟨a, ns, rfl, sqr_l (by rw [← h2.ofBoolsD q]; exact sqr_mono s h1), m _ H F (Same.refl H) (Ext.refl F H) s (.bl _)⟩
  | _ => exact False.elim m) fun ds z => not_one (g := fAll) (f := fun d => fAll [d]) (fun _ => rfl) rfl (fun a b r => by cases a <;> rfl) z
theorem ca_max2 : CaD K (fun xs H Q => ∃ i j, xs = [.int i, .int j] ∧ Q (.int (if j > i then j else i)) H) fMax2 := fun W E F H vs ds Q s r m => by
  rcases two_ints r with ⟨i, j, rfl, rfl⟩ | z
  · exact ⟨i, j, rfl, m _ H F (Same.refl H) (Ext.refl F H) s (.int _)⟩
  · have q : fMax2 ds = .no := by
      unfold fMax2
      split
      · exact (z _ _ rfl).elim
      · rfl
    rw [q] at m; exact False.elim m
theorem ca_min2 : CaD K (fun xs H Q => ∃ i j, xs = [.int i, .int j] ∧ Q (.int (if j < i then j else i)) H) fMin2 := fun W E F H vs ds Q s r m => by
  rcases two_ints r with ⟨i, j, rfl, rfl⟩ | z
  · exact ⟨i, j, rfl, m _ H F (Same.refl H) (Ext.refl F H) s (.int _)⟩
  · have q : fMin2 ds = .no := by
      unfold fMin2
      split
      · exact (z _ _ rfl).elim
      · rfl
    rw [q] at m; exact False.elim m
theorem ca_gcd : CaD K rGcd fGcd := fun W E F H vs ds Q s r m => by
  rcases two_ints r with ⟨i, j, rfl, rfl⟩ | z
  · exact ⟨i, j, rfl, m _ H F (Same.refl H) (Ext.refl F H) s (.int _)⟩
  · have q : fGcd ds = .no := by
      unfold fGcd
      split
      · exact (z _ _ rfl).elim
      · rfl
    rw [q] at m; exact False.elim m
theorem cn_list : CaDN K (fun xs H Q => ∃ p ys, xs = [.ref p] ∧ (SqL K H p ys ∨ SqT K H p ys) ∧ ∀ l, H l = none → Q (.ref l) (upd H l (.lst ys))) fList := cn_one (fun W E F H v d Q s r m => by
  cases r with
  | lst h1 h2 => exact ⟨_, _, rfl, .inl (sqr_l (sqr_mono s h1)), fun p hp => m p _ _ _ F rfl (same_upd hp) (Ext.refl F H) (s.trans (same_upd hp)) hp (none_back s hp) upd_same h2⟩
  | tup h1 h2 => exact ⟨_, _, rfl, .inr (sqt_mono s h1), fun p hp => m p _ _ _ F rfl (same_upd hp) (Ext.refl F H) (s.trans (same_upd hp)) hp (none_back s hp) upd_same h2⟩
  | _ => exact False.elim m) fun ds z => not_one (g := fList) (f := fun d => fList [d]) (fun _ => rfl) rfl (fun a b r => by cases a <;> rfl) z
theorem ca_tuple : CaD K (fun xs H Q => ∃ p ys, xs = [.ref p] ∧ ((SqL K H p ys ∧ ∀ l, H l = none → Q (.ref l) (upd H l (.tup ys))) ∨ (SqT K H p ys ∧ Q (.ref p) H))) fTuple := ca_one (fun W E F H v d Q s r m => by
  cases r with
  | lst h1 h2 => exact ⟨_, _, rfl, .inl ⟨sqr_l (sqr_mono s h1), fun p hp => m _ _ (upd F p (.tup _)) (same_upd hp) (Ext.one hp s) (same_upd2 s) (.tup (SqT.of upd_same) (h2.up (Ext.one hp s).up))⟩⟩
  | tup h1 h2 => exact ⟨_, _, rfl, .inr ⟨sqt_mono s h1, m _ H F (Same.refl H) (Ext.refl F H) s (.tup h1 h2)⟩⟩
  | _ => exact False.elim m) fun ds z => not_one (g := fTuple) (f := fun d => fTuple [d]) (fun _ => rfl) rfl (fun a b r => by cases a <;> rfl) z
theorem insI_perm (i : Int) : ∀ l : List Int, (insI i l).Perm (i :: l)
  | [] => .refl _
  | j :: r => by
    unfold insI
    split
    · exact .refl _
    · exact ((insI_perm i r).cons j).trans (.swap i j r)
theorem sortI_perm : ∀ l : List Int, (sortI l).Perm l
  | [] => .refl _
  | i :: r => (insI_perm i _).trans ((sortI_perm r).cons i)
theorem insI_mem {i x : Int} {l : List Int} (h : x ∈ insI i l) : x = i ∨ x ∈ l := by
  have := (insI_perm i l).mem_iff.mp h
  simpa using this
theorem insI_sorted (i : Int) : ∀ l : List Int, l.Pairwise (· ≤ ·) → (insI i l).Pairwise (· ≤ ·)
  | [], _ => by simp [insI]
  | j :: r, h => by
    have h' := List.pairwise_cons.mp h
    unfold insI
    split
    · rename_i hij
      exact List.pairwise_cons.mpr ⟨fun x hx => by
        rcases List.mem_cons.mp hx with e | e
        · rw [e]; exact hij
        · have := h'.1 x e; omega, h⟩
    · exact List.pairwise_cons.mpr ⟨fun x hx => by
        rcases insI_mem hx with e | e
        · rw [e]; omega
        · exact h'.1 x e, insI_sorted i r h'.2⟩
theorem sortI_sorted : ∀ l : List Int, (sortI l).Pairwise (· ≤ ·)
  | [] => .nil
  | i :: r => insI_sorted i _ (sortI_sorted r)
theorem cn_sorted : CaDN K (rSortedI K) fSorted := cn_one (fun W E F H v d Q s r m => by
  cases r with
  | lst h1 h2 =>
    rename_i a xs ds
    have m : Hd E W H (match asInts ds with | some ns => R.ok (.list ((sortI ns).map .int)) | none => .no) (NPost K W F H Q) := m
    cases q : asInts ds with
    | none => rw [q] at m; exact False.elim m
    | some ns =>
      rw [q] at m
      refine ⟨a, ns, rfl, sqr_l (by rw [← h2.ofIntsD q]; exact sqr_mono s h1), fun ns' p hp hs hn => ?_⟩
      have e : ns' = sortI ns := PySem.W.ksm_same (hp.trans (sortI_perm ns).symm) hs (sortI_sorted ns)
      rw [e]
      exact m p _ ((sortI ns).map PyData.int) _ F rfl (same_upd hn) (Ext.refl F H) (s.trans (same_upd hn)) hn (none_back s hn) upd_same RpA.ints
  | _ => exact False.elim m) fun ds z => not_one (g := fSorted) (f := fun d => fSorted [d]) (fun _ => rfl) rfl (fun a b r => by cases a <;> rfl) z

end
end Tx

set_option Elab.async false
set_option linter.all false
set_option maxRecDepth 100000
set_option maxHeartbeats 4000000
/-! A6: expressions and tests by data. -/
namespace Tx
open PySem L2 En

/-- lists of arguments -/
class EnL (A : Type) where
  enl : A → List D
open EnL
instance : EnL Unit := ⟨fun _ => []⟩
instance {α B : Type} [En α] [EnL B] : EnL (α × B) := ⟨fun x => en x.1 :: enl x.2⟩

section
variable (K : PySem.W.Frag) (W : Vp)
def Post (F H : Hp) (s : Sh) (Q : VK) (d : D) : Prop := ∀ v H' F' fp, Same H H' → Ext F H F' → Same F' H' → Ow K W.rc F' H' s v d fp → (∀ a ∈ fp, H a = none ∧ F' a = none) → Q v H'
def PostA (F H : Hp) (s : Sh) (Q : List V → Hp → Prop) (ds : List D) : Prop := ∀ vs H' F' fp, Same H H' → Ext F H F' → Same F' H' → OwA K W.rc F' H' s vs ds fp → (∀ a ∈ fp, H a = none ∧ F' a = none) → Q vs H'
/-- .. what is read, not new: with b, it stays as long as the base heap does -/
def PostR (H0 F H : Hp) (b : Bool) (s : Sh) (Q : VK) (d : D) : Prop := ∀ v H' F' fp, Same H H' → Ext F H F' → Same F' H' → Ow K W.rc F' H' s v d fp → (b = true → ∀ a ∈ fp, ∃ o, H0 a = some o) → Q v H'
def tE {α : Type} [En α] (E : L2.St → XK) (L : Nat) (ρ : Env) (s : Sh) (m : R α) : TE := fun σ H Q => ∃ H0 F, EnvS K W.rc H0 F H L σ ρ ∧ Hd (E σ) W H m fun a => Post K W F H s Q (en a)
def tR {α : Type} [En α] (E : L2.St → XK) (L : Nat) (ρ : Env) (b : Bool) (s : Sh) (m : R α) : TE := fun σ H Q => ∃ H0 F, EnvS K W.rc H0 F H L σ ρ ∧ Hd (E σ) W H m fun a => PostR K W H0 F H b s Q (en a)
def tA {A : Type} [EnL A] (E : L2.St → XK) (L : Nat) (ρ : Env) (s : Sh) (m : R A) : TA := fun σ H Q => ∃ H0 F, EnvS K W.rc H0 F H L σ ρ ∧ Hd (E σ) W H m fun a => PostA K W F H s Q (enl a)
def tT (E : L2.St → XK) (L : Nat) (ρ : Env) (m : R Bool) : TT := fun σ H Q => ∃ H0 F, EnvS K W.rc H0 F H L σ ρ ∧ Hd (E σ) W H m fun b => ∀ H', Same H H' → Q b H'
end
abbrev VE (X : Cx) (W : Vp) (E : L2.St → XK) (ρ : Env) (s : Sh) (e : Expr) {α : Type} [En α] (m : R α) : Prop := PE X e (tE X.K W E X.N.length ρ s m)
abbrev VR (X : Cx) (W : Vp) (E : L2.St → XK) (ρ : Env) (b : Bool) (s : Sh) (e : Expr) {α : Type} [En α] (m : R α) : Prop := PE X e (tR X.K W E X.N.length ρ b s m)
abbrev VA (X : Cx) (W : Vp) (E : L2.St → XK) (ρ : Env) (s : Sh) (es : List Expr) {A : Type} [EnL A] (m : R A) : Prop := PA X es (tA X.K W E X.N.length ρ s m)
abbrev VT (X : Cx) (W : Vp) (E : L2.St → XK) (ρ : Env) (e : Expr) (m : R Bool) : Prop := PT X e (tT X.K W E X.N.length ρ m)
abbrev VWh (X : Cx) (W : Vp) (E : L2.St → XK) (ρ : Env) (e : Expr) (m : R Bool) : Prop := PW X e (tT X.K W E X.N.length ρ m)

section
variable {K : PySem.W.Frag} {W : Vp} {F F1 H H1 : Hp} {s : Sh} {Q : VK} {d : D}
theorem Post.step (h : Post K W F H s Q d) (sm : Same H H1) (e : Ext F H F1) : Post K W F1 H1 s Q d := fun v H' F' fp a b c w n => h v H' F' fp (sm.trans a) (e.trans sm b) c w fun x hx => ⟨none_back sm (n x hx).1, (n x hx).2⟩
theorem Post.vp (h : Post K W F H .frz Q d) : VPost K W F H Q d := fun v H' F' a b c r => h v H' F' [] a b c (.fz r) fun x hx => nomatch hx
theorem Post.np (h : Post K W F H (.lst .frz) Q d) : NPost K W F H Q d := fun p vs ds H' F' e a b c n m l r => by
  subst e
  exact h (.ref p) H' F' [p] a b c (.lst l (OwA.ofRp r) (by simp)) fun x hx => by
    rw [List.mem_singleton.mp hx]; exact ⟨n, m⟩
/-- what is new may be frozen -/
theorem Post.frz (h : Post K W F H .frz Q d) : Post K W F H s Q d := fun v H' F' fp a b c w n => by
  let G : Hp := fun x => if x ∈ fp then H' x else F' x
  have inG : ∀ x ∈ fp, G x = H' x := fun x hx => if_pos hx
  have outG : ∀ x, x ∉ fp → G x = F' x := fun x hx => if_neg hx
  have s1 : Same F' G := fun x u z => by
    by_cases y : x ∈ fp
    · rw [(n x y).2] at z; cases z
    · rw [outG x y]; exact z
  refine h v H' G [] a ⟨b.up.trans s1, fun x u z => ?_⟩ (fun x u z => ?_) (.fz (w.rp s1 inG)) fun x hx => nomatch hx
  · by_cases y : x ∈ fp
    · exact .inr (n x y).1
    · rw [outG x y] at z; exact b.new x u z
  · by_cases y : x ∈ fp
    · rw [inG x y] at z; exact z
    · rw [outG x y] at z; exact c x u z
theorem Post.sc (z : scD d = true) (h : Post K W F H s Q d) (sm : Same F H) : Post K W H H .frz Q d := fun v H' F' fp a b c w n =>
  h v H' F [] a (Ext.refl F H) (sm.trans a) (.sc z (sc_rp (w.toRp.2.up c) z)) fun x hx => nomatch hx
end
theorem okH {α : Type} {E : XK} {W : Vp} {H : Hp} {a : α} {k : α → Prop} (h : Hd E W H (.ok a) k) : k a := h

section
variable {X : Cx} {W : Vp} {E : L2.St → XK} {ρ : Env} {s : Sh} {e a b c : Expr} {es rest : List Expr} {pos : Pos} {b0 : Bool}
variable {α β γ : Type} [En α] [En β] [En γ] {m : R α} {n : R β} {A : Type} [EnL A] {mA : R A}
theorem ve_frz (h : VE X W E ρ s e m) : VE X W E ρ .frz e m := h.wk fun σ H Q ⟨H0, F, k, q⟩ => ⟨H0, F, k, q.imp fun _ => Post.frz⟩
theorem ve_sc [Sc α] (h : VE X W E (fzA ρ) .frz e m) : VE X W E ρ s e m := h.wk fun σ H Q ⟨H0, F, k, q⟩ => ⟨H, H, k.all, q.imp fun a p => Post.sc (Sc.sc a) p k.sub⟩
theorem ve_gr [GrT s α] (h : VE X W E (fzA ρ) s e m) : VE X W E ρ s e m := h.wk fun σ H Q ⟨H0, F, k, q⟩ => ⟨H, H, k.all, q.imp fun a p v H' F' fp s1 x1 f1 w n =>
  p v H' F fp s1 (Ext.refl F H) (k.sub.trans s1) (w.ground (GrT.gr a)) fun x hx => ⟨(n x hx).1, by
    cases y : F x with
    | none => rfl
    | some o =>
      have z := (n x hx).1
      rw [k.sub x o y] at z; cases z⟩⟩
theorem vt_all {t : R Bool} (h : VT X W E (fzA ρ) e t) : VT X W E ρ e t := h.wk fun σ H Q ⟨H0, F, k, q⟩ => ⟨H, H, k.all, q⟩
theorem ve_v {i : Nat} {x : α} (h : PE X e (tVar i)) (hi : ρ i = .vl .fz (en x)) : VE X W E ρ .frz e (.ok x) := h.wk fun σ H Q ⟨H0, F, k, q⟩ => by
  obtain ⟨fp, o1, _⟩ := k.sl
  obtain ⟨v, h1, _, h2⟩ := o1 i _ _ hi
  exact ⟨v, h1, okH q v H F [] (Same.refl H) (Ext.refl F H) k.sub (.fz h2) fun x hx => nomatch hx⟩
theorem ve_c {v : V} {x : α} (h : PE X e (L2.tC v)) (r : ∀ K C H, Rp K C H v (en x)) : VE X W E ρ .frz e (.ok x) := h.wk fun σ H Q ⟨H0, F, k, q⟩ => okH q v H F [] (Same.refl H) (Ext.refl F H) k.sub (.fz (r _ _ _)) fun x hx => nomatch hx
theorem ve_int {i : Int} {j pos} : VE X W E ρ .frz (.Constant (.int i) j pos) (.ok i) := ve_c pe_int fun _ _ _ => .int i
theorem ve_bl {i : Bool} {j pos} : VE X W E ρ .frz (.Constant (.bool i) j pos) (.ok i) := ve_c pe_bl fun _ _ _ => .bl i
theorem ve_non {j pos} : VE X W E ρ .frz (.Constant .none j pos) (.ok ()) := ve_c pe_non fun _ _ _ => .non
theorem ve_nonO {j pos} : VE X W E ρ .frz (.Constant .none j pos) (.ok (none : Option α)) := ve_c pe_non fun _ _ _ => .non
theorem ve_str {i : Str} {j pos} : VE X W E ρ .frz (.Constant (.str i) j pos) (.ok i) := ve_c pe_str fun _ _ _ => .str i
/-- the same data under another name -/
theorem ve_cast (f : α → β) (h : VE X W E ρ s e m) (hf : ∀ a, en (f a) = en a := by intro _; rfl) : VE X W E ρ s e (m.map f) := h.wk fun σ H Q ⟨H0, F, k, q⟩ => ⟨H0, F, k, (hd_map q).imp fun a p => by rw [hf] at p; exact p⟩
/-- .. under another name, where it has one -/
theorem ve_castR (f : α → R β) (h : VE X W E ρ s e m) (hf : ∀ a, (∃ b, f a = .ok b ∧ en b = en a) ∨ f a = .no) : VE X W E ρ s e (m.bind f) := h.wk fun σ H Q ⟨H0, F, k, q⟩ => ⟨H0, F, k, (hd_bind q).imp fun a p => by
  rcases hf a with ⟨b, e1, e2⟩ | e1
  · rw [e1] at p
    rw [← e2]
    exact p
  · rw [e1] at p
    exact p.elim⟩
theorem ve_un {m : R (Option α)} (h : VE X W E ρ s e m) : VE X W E ρ s e (m.bind unO) := ve_castR unO h fun a => by
  cases a with
  | none => exact .inr rfl
  | some a => exact .inl ⟨a, rfl, rfl⟩
theorem ve_op {op : Operator} {r : R2} {f : D → D → R D} (ho : OpR X (binaryOp op) r) (od : OpD X.K r f) (g : α → β → R γ) (hf : ∀ x y, f (en x) (en y) = (g x y).map en) (ha : VE X W E ρ .frz a m) (hb : VE X W E ρ .frz b n) :
    VE X W E ρ .frz (.BinOp a op b pos) (m.bind fun x => n.bind fun y => g x y) := (pe_op ho ha hb).wk fun σ H Q ⟨H0, F, k, q⟩ =>
  ⟨H0, F, k, (hd_bind q).imp fun d1 q1 v H1 F1 fp s1 x1 f1 w1 _ => ⟨H0, F1, k.grow s1 x1 f1, ((hd_bind q1).heap s1).imp fun d2 q2 u H2 F2 fq s2 x2 f2 w2 _ => by
    refine od W (E σ) F2 H2 v u (en d1) (en d2) Q f2 (w1.toRp.2.up x2.up) w2.toRp.2 ?_
    rw [hf]
    exact hd_unmap ((q2.heap (s1.trans s2)).imp fun z p => (p.step (s1.trans s2) (x1.trans s1 x2)).vp)⟩⟩
theorem vn_op {op : Operator} {r : R2} {f : D → D → R D} (ho : OpR X (binaryOp op) r) (od : OpDN X.K r f) (g : α → β → R γ) (hf : ∀ x y, f (en x) (en y) = (g x y).map en) (ha : VE X W E ρ .frz a m) (hb : VE X W E ρ .frz b n) :
    VE X W E ρ (.lst .frz) (.BinOp a op b pos) (m.bind fun x => n.bind fun y => g x y) := (pe_op ho ha hb).wk fun σ H Q ⟨H0, F, k, q⟩ =>
  ⟨H0, F, k, (hd_bind q).imp fun d1 q1 v H1 F1 fp s1 x1 f1 w1 _ => ⟨H0, F1, k.grow s1 x1 f1, ((hd_bind q1).heap s1).imp fun d2 q2 u H2 F2 fq s2 x2 f2 w2 _ => by
    refine od W (E σ) F2 H2 v u (en d1) (en d2) Q f2 (w1.toRp.2.up x2.up) w2.toRp.2 ?_
    rw [hf]
    exact hd_unmap ((q2.heap (s1.trans s2)).imp fun z p => (p.step (s1.trans s2) (x1.trans s1 x2)).np)⟩⟩
theorem ve_cmp {op : CmpOp} {r : R2} {f : D → D → R D} (ho : OpR X (compareOp op) r) (od : OpD X.K r f) (g : α → β → R γ) (hf : ∀ x y, f (en x) (en y) = (g x y).map en) (ha : VE X W E ρ .frz a m) (hb : VE X W E ρ .frz b n) (hm : behindInMarks op b = false) :
    VE X W E ρ .frz (.Compare a [op] [b] pos) (m.bind fun x => n.bind fun y => g x y) := (pe_cmpR ho ha hb hm).wk fun σ H Q ⟨H0, F, k, q⟩ =>
  ⟨H0, F, k, (hd_bind q).imp fun d1 q1 v H1 F1 fp s1 x1 f1 w1 _ => ⟨H0, F1, k.grow s1 x1 f1, ((hd_bind q1).heap s1).imp fun d2 q2 u H2 F2 fq s2 x2 f2 w2 _ => by
    refine od W (E σ) F2 H2 v u (en d1) (en d2) Q f2 (w1.toRp.2.up x2.up) w2.toRp.2 ?_
    rw [hf]
    exact hd_unmap ((q2.heap (s1.trans s2)).imp fun z p => (p.step (s1.trans s2) (x1.trans s1 x2)).vp)⟩⟩
theorem ve_ix {r : R2} {f : D → D → R D} (ho : IxR X r) (od : OpD X.K r f) (g : α → β → R γ) (hf : ∀ x y, f (en x) (en y) = (g x y).map en) (ha : VE X W E ρ .frz a m) (hb : VE X W E ρ .frz b n) (hs : PlainIx b) :
    VE X W E ρ .frz (.Subscript a b pos) (m.bind fun x => n.bind fun y => g x y) := (pe_ix ho ha hb hs).wk fun σ H Q ⟨H0, F, k, q⟩ =>
  ⟨H0, F, k, (hd_bind q).imp fun d1 q1 v H1 F1 fp s1 x1 f1 w1 _ => ⟨H0, F1, k.grow s1 x1 f1, ((hd_bind q1).heap s1).imp fun d2 q2 u H2 F2 fq s2 x2 f2 w2 _ => by
    refine od W (E σ) F2 H2 v u (en d1) (en d2) Q f2 (w1.toRp.2.up x2.up) w2.toRp.2 ?_
    rw [hf]
    exact hd_unmap ((q2.heap (s1.trans s2)).imp fun z p => (p.step (s1.trans s2) (x1.trans s1 x2)).vp)⟩⟩
theorem ve_un1 {op : UnaryOp} {r : V → Hp → VK → Prop} {f : D → R D} (ho : UnR X (unaryOp op) r) (od : OpD1 X.K r f) (g : α → R γ) (hf : ∀ x, f (en x) = (g x).map en) (ha : VE X W E ρ .frz a m) : VE X W E ρ .frz (.UnaryOp op a pos) (m.bind g) := (pe_un ho ha).wk fun σ H Q ⟨H0, F, k, q⟩ =>
  ⟨H0, F, k, (hd_bind q).imp fun d1 q1 v H1 F1 fp s1 x1 f1 w1 _ => by
    refine od W (E σ) F1 H1 v (en d1) Q f1 w1.toRp.2 ?_
    rw [hf]
    exact hd_unmap ((q1.heap s1).imp fun z p => (p.step s1 x1).vp)⟩

/-! ### tests -/
theorem bool_rp {K : PySem.W.Frag} {C : Rc} {H : Hp} {v : V} {k : Bool} (r : Rp K C H v (en k)) : v = .bl k := by cases r; rfl
theorem vt_val {t : R Bool} (ha : VE X W E ρ .frz a t) (he : ∀ whole, isTrue a X.env whole = (do let v ← whole; standAt a.pos; holding [v] (truthy v)) := by intro _; rfl) : VT X W E ρ a t :=
  (L2.pt_val ha he).wk fun σ H Q ⟨H0, F, k, q⟩ => ⟨H0, F, k, q.imp fun d q1 v H1 F1 fp s1 x1 f1 w1 _ => ⟨d, bool_rp w1.toRp.2, q1 H1 s1⟩⟩
theorem vt_cmp {op : CmpOp} {r : R2} {f : D → D → R D} (ho : OpR X (compareOp op) r) (od : OpD X.K r f) (g : α → β → R Bool) (hf : ∀ x y, f (en x) (en y) = (g x y).map en) (ha : VE X W E ρ .frz a m) (hb : VE X W E ρ .frz b n) (hm : behindInMarks op b = false) :
    VT X W E ρ (.Compare a [op] [b] pos) (m.bind fun x => n.bind fun y => g x y) := (pt_cmpR ho ha hb hm).wk fun σ H Q ⟨H0, F, k, q⟩ =>
  ⟨H0, F, k, (hd_bind q).imp fun d1 q1 v H1 F1 fp s1 x1 f1 w1 _ => ⟨H0, F1, k.grow s1 x1 f1, ((hd_bind q1).heap s1).imp fun d2 q2 u H2 F2 fq s2 x2 f2 w2 _ => by
    refine od W (E σ) F2 H2 v u (en d1) (en d2) _ f2 (w1.toRp.2.up x2.up) w2.toRp.2 ?_
    rw [hf]
    exact hd_unmap ((q2.heap (s1.trans s2)).imp fun z p y H3 F3 s3 x3 f3 r3 => ⟨z, bool_rp r3, p H3 ((s1.trans s2).trans s3)⟩)⟩⟩
/-- what counts as true -/
def truD : D → R Bool
  | .none => .ok false
  | .bool b => .ok b
  | .int i => .ok (i != 0)
  | .list xs => .ok (!xs.isEmpty)
  | .tuple xs => .ok (!xs.isEmpty)
  | _ => .no
theorem vt_truth (g : α → R Bool) (hg : ∀ x, truD (en x) = g x) (ha : VE X W E ρ .frz a m) (he : ∀ whole, isTrue a X.env whole = (do let v ← whole; standAt a.pos; holding [v] (truthy v)) := by intro _; rfl) : VT X W E ρ a (m.bind g) :=
  (pt_truth ha he).wk fun σ H Q ⟨H0, F, k, q⟩ => ⟨H0, F, k, (hd_bind q).imp fun d m1 v H1 F1 fp s1 x1 f1 w1 _ => by
    rw [← hg] at m1
    generalize en d = z at m1 w1
    have r1 := w1.toRp.2
    cases r1 with
    | non => exact ⟨_, rfl, m1 H1 s1⟩
    | bl b => exact ⟨_, rfl, m1 H1 s1⟩
    | int i => exact ⟨_, rfl, m1 H1 s1⟩
    | str y => exact m1.elim
    | obj h0 h1 h2 => exact m1.elim
    | dic h1 h2 => exact m1.elim
    | exn h1 => exact m1.elim
    | lst h1 h2 =>
      rename_i aa xs ds
      refine ⟨!ds.isEmpty, .inl ⟨xs, sqr_l (sqr_mono f1 h1), ?_⟩, m1 H1 s1⟩
      have := h2.len
      cases xs <;> cases ds <;> first | rfl | (simp at this)
    | tup h1 h2 =>
      rename_i aa xs ds
      refine ⟨!ds.isEmpty, .inr (.inl ⟨xs, sqt_mono f1 h1, ?_⟩), m1 H1 s1⟩
      have := h2.len
      cases xs <;> cases ds <;> first | rfl | (simp at this)⟩
variable {t u : R Bool}
theorem vt_not (ha : VT X W E ρ a t) : VT X W E ρ (.UnaryOp .Not a pos) (t.map fun b => !b) :=
  (pt_not ha).wk fun σ H Q ⟨H0, F, k, q⟩ => ⟨H0, F, k, (hd_map q).imp fun d m1 H1 s1 => m1 H1 s1⟩
theorem vw_and1 (ha : VT X W E ρ a t) : VWh X W E ρ (.BoolOp .And [a] pos) t := pw_and1 ha
theorem vw_or1 (ha : VT X W E ρ a t) : VWh X W E ρ (.BoolOp .Or [a] pos) t := pw_or1 ha
theorem vw_and (ha : VT X W E ρ a t) (hb : VWh X W E ρ (.BoolOp .And (b :: rest) pos) u) : VWh X W E ρ (.BoolOp .And (a :: b :: rest) pos) (andR t u) :=
  (pw_and ha hb).wk fun σ H Q ⟨H0, F, k, q⟩ => ⟨H0, F, k, (hd_bind q).imp fun d m1 H1 s1 => by
    cases d with
    | true =>
      show tT X.K W E X.N.length ρ u σ H1 Q
      exact ⟨H0, F, k.heap s1, (m1.heap s1).imp fun k q H2 s2 => q H2 (s1.trans s2)⟩
    | false => exact m1 H1 s1⟩
theorem vw_or (ha : VT X W E ρ a t) (hb : VWh X W E ρ (.BoolOp .Or (b :: rest) pos) u) : VWh X W E ρ (.BoolOp .Or (a :: b :: rest) pos) (orR t u) :=
  (pw_or ha hb).wk fun σ H Q ⟨H0, F, k, q⟩ => ⟨H0, F, k, (hd_bind q).imp fun d m1 H1 s1 => by
    cases d with
    | false =>
      show tT X.K W E X.N.length ρ u σ H1 Q
      exact ⟨H0, F, k.heap s1, (m1.heap s1).imp fun k q H2 s2 => q H2 (s1.trans s2)⟩
    | true => exact m1 H1 s1⟩
theorem vt_w (h : VWh X W E ρ e t) : VT X W E ρ e t := PW.pt h
theorem vt_eq {t' : R Bool} (h : VT X W E ρ e t) (q : t = t') : VT X W E ρ e t' := q ▸ h
theorem vw_eq {t' : R Bool} (h : VWh X W E ρ e t) (q : t = t') : VWh X W E ρ e t' := q ▸ h
theorem ve_eq {m' : R α} (h : VE X W E ρ s e m) (q : m = m') : VE X W E ρ s e m' := q ▸ h
theorem andR_ok (x y : Bool) : andR (.ok x) (.ok y) = .ok (x && y) := by cases x <;> rfl
theorem orR_ok (x y : Bool) : orR (.ok x) (.ok y) = .ok (x || y) := by cases x <;> rfl
theorem vw_andP {x y : Bool} (ha : VT X W E ρ a (.ok x)) (hb : VWh X W E ρ (.BoolOp .And (b :: rest) pos) (.ok y)) : VWh X W E ρ (.BoolOp .And (a :: b :: rest) pos) (.ok (x && y)) := vw_eq (vw_and ha hb) (andR_ok x y)
theorem vw_orP {x y : Bool} (ha : VT X W E ρ a (.ok x)) (hb : VWh X W E ρ (.BoolOp .Or (b :: rest) pos) (.ok y)) : VWh X W E ρ (.BoolOp .Or (a :: b :: rest) pos) (.ok (x || y)) := vw_eq (vw_or ha hb) (orR_ok x y)
/-! ### and, or, not as values -/
theorem ve_one {op} (h : VE X W E ρ s a m) : VE X W E ρ s (.BoolOp op [a] pos) m := pe_one h
theorem ve_and (ha : VE X W E ρ .frz a t) (hb : VE X W E ρ .frz (.BoolOp .And (b :: rest) pos) u) : VE X W E ρ .frz (.BoolOp .And (a :: b :: rest) pos) (andR t u) :=
  (pe_and ha hb).wk fun σ H Q ⟨H0, F, k, q⟩ => ⟨H0, F, k, (hd_bind q).imp fun d m1 v H1 F1 fp s1 x1 f1 w1 _ => by
    refine ⟨d, bool_rp w1.toRp.2, ?_⟩
    cases d with
    | true =>
      show tE X.K W E X.N.length ρ .frz u σ H1 Q
      exact ⟨H0, F1, k.grow s1 x1 f1, (Hd.heap (r := u) m1 s1).imp fun d q => q.step s1 x1⟩
    | false =>
      show Q (.bl false) H1
      exact m1 _ H1 F1 [] s1 x1 f1 (.fz (.bl false)) fun x hx => nomatch hx⟩
theorem ve_or (ha : VE X W E ρ .frz a t) (hb : VE X W E ρ .frz (.BoolOp .Or (b :: rest) pos) u) : VE X W E ρ .frz (.BoolOp .Or (a :: b :: rest) pos) (orR t u) :=
  (pe_or ha hb).wk fun σ H Q ⟨H0, F, k, q⟩ => ⟨H0, F, k, (hd_bind q).imp fun d m1 v H1 F1 fp s1 x1 f1 w1 _ => by
    refine ⟨d, bool_rp w1.toRp.2, ?_⟩
    cases d with
    | false =>
      show tE X.K W E X.N.length ρ .frz u σ H1 Q
      exact ⟨H0, F1, k.grow s1 x1 f1, (Hd.heap (r := u) m1 s1).imp fun d q => q.step s1 x1⟩
    | true =>
      show Q (.bl true) H1
      exact m1 _ H1 F1 [] s1 x1 f1 (.fz (.bl true)) fun x hx => nomatch hx⟩
theorem ve_andP {x y : Bool} (ha : VE X W E ρ .frz a (.ok x)) (hb : VE X W E ρ .frz (.BoolOp .And (b :: rest) pos) (.ok y)) : VE X W E ρ .frz (.BoolOp .And (a :: b :: rest) pos) (.ok (x && y)) := ve_eq (ve_and ha hb) (andR_ok x y)
theorem ve_orP {x y : Bool} (ha : VE X W E ρ .frz a (.ok x)) (hb : VE X W E ρ .frz (.BoolOp .Or (b :: rest) pos) (.ok y)) : VE X W E ρ .frz (.BoolOp .Or (a :: b :: rest) pos) (.ok (x || y)) := ve_eq (ve_or ha hb) (orR_ok x y)
theorem ve_not (ha : VE X W E ρ .frz a t) : VE X W E ρ .frz (.UnaryOp .Not a pos) (t.map fun b => !b) :=
  (pe_not ha).wk fun σ H Q ⟨H0, F, k, q⟩ => ⟨H0, F, k, (hd_map q).imp fun d m1 v H1 F1 fp s1 x1 f1 w1 _ =>
    ⟨d, bool_rp w1.toRp.2, m1 _ H1 F1 [] s1 x1 f1 (.fz (.bl _)) fun x hx => nomatch hx⟩⟩
/-- not x, whatever x is: by its truth -/
theorem ve_if {m n : R α} (hc : VT X W E ρ c t) (ha : VE X W E ρ s a m) (hb : VE X W E ρ s b n) : VE X W E ρ s (.IfExp c a b pos) (iteR t m n) :=
  (pe_ifExp hc ha hb).wk fun σ H Q ⟨H0, F, k, q⟩ => ⟨H0, F, k, (hd_bind q).imp fun d m1 H1 s1 => by
    cases d with
    | true =>
      show tE X.K W E X.N.length ρ s m σ H1 Q
      exact ⟨H0, F, k.heap s1, (Hd.heap (r := m) m1 s1).imp fun d q => q.step s1 (Ext.refl F H)⟩
    | false =>
      show tE X.K W E X.N.length ρ s n σ H1 Q
      exact ⟨H0, F, k.heap s1, (Hd.heap (r := n) m1 s1).imp fun d q => q.step s1 (Ext.refl F H)⟩⟩
theorem iteR_ok (x : Bool) (y z : α) : iteR (.ok x) (.ok y) (.ok z) = .ok (if x = true then y else z) := by cases x <;> rfl
theorem ve_ifP {x : Bool} {y z : α} (hc : VT X W E ρ c (.ok x)) (ha : VE X W E ρ s a (.ok y)) (hb : VE X W E ρ s b (.ok z)) : VE X W E ρ s (.IfExp c a b pos) (.ok (if x = true then y else z)) := ve_eq (ve_if hc ha hb) (iteR_ok x y z)

/-! ### arguments, displays -/
theorem va_nil : VA X W E ρ s [] (.ok ()) := pa_nil.wk fun σ H Q ⟨H0, F, k, q⟩ => okH q [] H F [] (Same.refl H) (Ext.refl F H) k.sub .nil fun x hx => nomatch hx
theorem va_cons (ha : VE X W E ρ s e m) (hr : VA X W E ρ s es mA) (hs : starEach (e :: es) X.env = (false, eval e X.env) :: starEach es X.env := by rfl) : VA X W E ρ s (e :: es) (m.bind fun x => mA.bind fun y => .ok (x, y)) :=
  (pa_cons ha hr hs).wk fun σ H Q ⟨H0, F, k, q⟩ => ⟨H0, F, k, (hd_bind q).imp fun d m1 v H1 F1 fp s1 x1 f1 w1 n1 => ⟨H0, F1, k.grow s1 x1 f1, ((hd_bind m1).heap s1).imp fun ds m2 vs H2 F2 fq s2 x2 f2 w2 n2 => by
    have keep : ∀ a ∈ fp, H2 a = H1 a ∧ F2 a = none := fun a ha => by
      obtain ⟨o, e⟩ := w1.live a ha
      exact ⟨(s2 a o e).trans e.symm, x2.out e (n1 a ha).2⟩
    refine okH m2 (v :: vs) H2 F2 (fp ++ fq) (s1.trans s2) (x1.trans s1 x2) f2 (.cons (w1.mono x2.up fun a ha => (keep a ha).1) w2 fun a ha hb => ?_) fun a ha => ?_
    · obtain ⟨o, e⟩ := w1.live a ha
      rw [(n2 a hb).1] at e; cases e
    · rcases List.mem_append.mp ha with h | h
      · exact ⟨(n1 a h).1, (keep a h).2⟩
      · exact ⟨none_back s1 (n2 a h).1, (n2 a h).2⟩⟩⟩
theorem ve_tup {k} (f : A → α) (h : VA X W E ρ s es mA) (hf : ∀ x, en (f x) = .tuple (enl x) := by intro _; rfl) (hz : ∀ x : A, Nat.ble (enl x).length 64 = true := by intro _; rfl) : VE X W E ρ (.tup s) (.Tuple es k pos) (mA.map f) :=
  (pe_tup h).wk fun σ H Q ⟨H0, F, kk, q⟩ => ⟨H0, F, kk, (hd_map q).imp fun ds m1 vs H1 F1 fp s1 x1 f1 w1 n1 => by
    have l := w1.len
    have l2 := Nat.le_of_ble_eq_true (hz ds)
    have l3 : (64 : Nat) ≤ sizeLine := by decide
    refine ⟨by omega, fun p hp => ?_⟩
    have np : p ∉ fp := fun hx => by
      obtain ⟨o, e⟩ := w1.live p hx
      rw [hp] at e; cases e
    refine m1 (.ref p) _ F1 (p :: fp) (s1.trans (same_upd hp)) x1 (f1.trans (same_upd hp)) ?_ fun a ha => ?_
    · rw [hf]
      exact .tup upd_same (w1.mono (Same.refl F1) fun a ha => upd_ne fun z => np (z ▸ ha)) np
    · rcases List.mem_cons.mp ha with rfl | ha
      · exact ⟨none_back s1 hp, none_back f1 hp⟩
      · exact n1 a ha⟩
theorem ve_lst (f : A → α) (h : VA X W E ρ s es mA) (hf : ∀ x, en (f x) = .list (enl x) := by intro _; rfl) (hz : ∀ x : A, Nat.ble (enl x).length 64 = true := by intro _; rfl) : VE X W E ρ (.lst s) (.List es pos) (mA.map f) :=
  (pe_lst h).wk fun σ H Q ⟨H0, F, kk, q⟩ => ⟨H0, F, kk, (hd_map q).imp fun ds m1 vs H1 F1 fp s1 x1 f1 w1 n1 => by
    have l := w1.len
    have l2 := Nat.le_of_ble_eq_true (hz ds)
    have l3 : (64 : Nat) ≤ sizeLine := by decide
    refine ⟨by omega, fun p hp => ?_⟩
    have np : p ∉ fp := fun hx => by
      obtain ⟨o, e⟩ := w1.live p hx
      rw [hp] at e; cases e
    refine m1 (.ref p) _ F1 (p :: fp) (s1.trans (same_upd hp)) x1 (f1.trans (same_upd hp)) ?_ fun a ha => ?_
    · rw [hf]
      exact .lst upd_same (w1.mono (Same.refl F1) fun a ha => upd_ne fun z => np (z ▸ ha)) np
    · rcases List.mem_cons.mp ha with rfl | ha
      · exact ⟨none_back s1 hp, none_back f1 hp⟩
      · exact n1 a ha⟩

/-! ### built-ins -/
theorem ve_ca {r : List V → Hp → VK → Prop} {f : List D → R D} (od : CaD X.K r f) (g : A → R γ) (hf : ∀ x, f (enl x) = (g x).map en) (h : PE X e (tCB r (tA X.K W E X.N.length ρ .frz mA))) : VE X W E ρ .frz e (mA.bind g) := h.wk fun σ H Q ⟨H0, F, k, q⟩ =>
  ⟨H0, F, k, (hd_bind q).imp fun d q1 vs H1 F1 fp s1 x1 f1 w1 _ => by
    refine od W (E σ) F1 H1 vs (enl d) Q f1 w1.toRp.2 ?_
    rw [hf]
    exact hd_unmap ((q1.heap s1).imp fun z p => (p.step s1 x1).vp)⟩
theorem vn_ca {r : List V → Hp → VK → Prop} {f : List D → R D} (od : CaDN X.K r f) (g : A → R γ) (hf : ∀ x, f (enl x) = (g x).map en) (h : PE X e (tCB r (tA X.K W E X.N.length ρ .frz mA))) : VE X W E ρ (.lst .frz) e (mA.bind g) := h.wk fun σ H Q ⟨H0, F, k, q⟩ =>
  ⟨H0, F, k, (hd_bind q).imp fun d q1 vs H1 F1 fp s1 x1 f1 w1 _ => by
    refine od W (E σ) F1 H1 vs (enl d) Q f1 w1.toRp.2 ?_
    rw [hf]
    exact hd_unmap ((q1.heap s1).imp fun z p => (p.step s1 x1).np)⟩

/-! ### slices -/
def tO (K : PySem.W.Frag) (W : Vp) (E : L2.St → XK) (L : Nat) (ρ : Env) (m : R (Option Int)) : TO := fun σ H Q => ∃ H0 F, EnvS K W.rc H0 F H L σ ρ ∧ Hd (E σ) W H m fun o => ∀ H' F', Same H H' → Ext F H F' → Same F' H' → Q o H'
abbrev VO (X : Cx) (W : Vp) (E : L2.St → XK) (ρ : Env) (e : Option Expr) (m : R (Option Int)) : Prop := PO X e (tO X.K W E X.N.length ρ m)
theorem vo_none : VO X W E ρ none (.ok none) := po_none.wk fun σ H Q ⟨H0, F, k, q⟩ => okH q H F (Same.refl H) (Ext.refl F H) k.sub
theorem int_rp {K : PySem.W.Frag} {C : Rc} {H : Hp} {v : V} {k : Int} (r : Rp K C H v (en k)) : v = .int k := by cases r; rfl
theorem vo_some {m : R Int} (h : VE X W E ρ .frz e m) : VO X W E ρ (some e) (m.map some) := (po_some h).wk fun σ H Q ⟨H0, F, k, q⟩ =>
  ⟨H0, F, k, (hd_map q).imp fun d m1 v H1 F1 fp s1 x1 f1 w1 _ => ⟨d, int_rp w1.toRp.2, m1 H1 F1 s1 x1 f1⟩⟩
theorem cutV_rp {K : PySem.W.Frag} {C : Rc} {F : Hp} {xs : List V} {ds : List D} (r : RpA K C F xs ds) (lo hi : Option Int) : RpA K C F (cutV xs lo hi) (cutL ds lo hi) := by
  have l := r.len
  have e1 : ∀ n d o, HT.sIx n d o = sIxV n d o := fun n d o => by
    cases o with
    | none => rfl
    | some v => rfl
  unfold cutV cutL
  rw [e1, e1, l]
  exact (r.drop _).take _
theorem cutL_map (f : α → D) (xs : List α) (lo hi : Option Int) : cutL (xs.map f) lo hi = (cutL xs lo hi).map f := by
  unfold cutL
  rw [List.map_take, List.map_drop, List.length_map]
theorem vn_sl {m : R (List α)} {lo hi : Option Expr} {p2 pos : Pos} {gl gh : R (Option Int)} (he : VE X W E ρ .frz e m) (hl : VO X W E ρ lo gl) (hh : VO X W E ρ hi gh) : VE X W E ρ (.lst .frz) (.Subscript e (.Slice lo hi none p2) pos) (m.bind fun xs => gl.bind fun i => gh.bind fun j => .ok (cutL xs i j)) :=
  (pe_slice sl_list he hl hh).wk fun σ H Q ⟨H0, F, k, q⟩ =>
    ⟨H0, F, k, (hd_bind q).imp fun d m1 v H1 F1 fp s1 x1 f1 w1 _ => ⟨H0, F1, k.grow s1 x1 f1, ((hd_bind m1).heap s1).imp fun a m2 H2 F2 s2 x2 f2 =>
      ⟨H0, F2, (k.grow s1 x1 f1).grow s2 x2 f2, ((hd_bind m2).heap (s1.trans s2)).imp fun b m3 H3 F3 s3 x3 f3 => by
        have r1 := w1.toRp.2
        cases r1 with
        | lst h1 h2 =>
          have f13 : Same F1 F3 := x2.up.trans x3.up
          have s13 := (s1.trans s2).trans s3
          refine ⟨_, _, rfl, sqr_l (sqr_mono (f13.trans f3) h1), fun p hp => ?_⟩
          have m3 : Post X.K W F H (.lst .frz) Q (en (cutL d a b)) := m3
          refine m3.np p _ _ _ F3 (show en (cutL d a b) = .list (cutL (d.map en) a b) by rw [cutL_map]; rfl) (s13.trans (same_upd hp)) ((x1.trans s1 x2).trans (s1.trans s2) x3) (f3.trans (same_upd hp)) (none_back s13 hp) (none_back f3 hp) upd_same (cutV_rp (h2.up f13) a b)⟩⟩⟩

/-! ### what is read of an owned or a borrowed value -/
theorem vr_e (h : VE X W E ρ .frz e m) : VR X W E ρ b0 .frz e m := h.wk fun σ H Q ⟨H0, F, k, q⟩ => ⟨H0, F, k, q.imp fun a p v H1 F1 fp s1 x1 f1 w1 n => p v H1 F1 fp s1 x1 f1 w1 fun _ a ha => by rw [w1.toRp.1] at ha; cases ha⟩
theorem ve_r (h : VR X W E ρ b0 .frz e m) : VE X W E ρ .frz e m := h.wk fun σ H Q ⟨H0, F, k, q⟩ => ⟨H0, F, k, q.imp fun a p v H1 F1 fp s1 x1 f1 w1 n => p v H1 F1 fp s1 x1 f1 w1 fun a ha => by rw [w1.toRp.1] at ha; cases ha⟩
theorem vr_v {i : Nat} {x : α} {r : Option V} (h : PE X e (tVar i)) (hi : ρ i = .vl (.ow s r) (en x)) : VR X W E ρ false s e (.ok x) := h.wk fun σ H Q ⟨H0, F, k, q⟩ => by
  obtain ⟨fp, o1, _⟩ := k.sl
  obtain ⟨v, h1, h2, h3, _⟩ := o1 i _ _ hi
  exact ⟨v, h1, okH q v H F _ (Same.refl H) (Ext.refl F H) k.sub h3 fun z => nomatch z⟩
theorem vr_b {i : Nat} {x : α} {r : Option V} (h : PE X e (tVar i)) (hi : ρ i = .vl (.bw s r) (en x)) : VR X W E ρ b0 s e (.ok x) := h.wk fun σ H Q ⟨H0, F, k, q⟩ => by
  obtain ⟨fp, o1, _⟩ := k.sl
  obtain ⟨v, h1, h2, h3, h4⟩ := o1 i _ _ hi
  exact ⟨v, h1, okH q v H F _ (Same.refl H) (Ext.refl F H) k.sub h3 fun _ a ha => (h4 a ha).2⟩
end
end Tx

set_option Elab.async false
set_option linter.all false
set_option maxRecDepth 100000
set_option maxHeartbeats 4000000
/-! AX: list(reversed(xs)), enumerate(a tuple). -/
namespace Tx
open PySem PySem.Spec PyProof.Rows L2
abbrev emptyL : Obj := { cls := .type "list", data := .seq #[] }
section
variable {pr : Program} {w : World} {A : Around} {E : Value → Shared → Prop} {s : Shared}
theorem ext_rev {R : Result → Shared → Prop} {it l S : Addr} {xs : Array Value} (hh : A.handled = none)
    (hi : s.heap.IsRevIter it l ((xs.size : Int) - 1)) (hl : s.heap.IsList l xs) (li : l ≠ it) (Si : S ≠ it) (Sl : S ≠ l) (hn : xs.size ≤ sizeLine) (res : Value) (c₀ : Nat)
    (hS : s.heap.get? S = some { cls := .type "list", data := .seq #[] c₀ })
    (hR : ∀ h' tk acc c', (∀ b o, b ≠ S → b ≠ it → s.heap.get? b = some o → h'.get? b = some o) → h'.get? S = some { cls := .type "list", dict := none, data := .seq acc c', slots := #[] } →
      ItemsOf (fun i v => xs[xs.size - 1 - i]? = some v) acc xs.size → R (.ok (.ret res)) { s with heap := h', toks := tk }) :
    wpAny (model pr w) A.in1 (Builtin.List.listExtendWith (.ref S) (.ref it) res)
      (fun fin s' => match fin with
        | .done f => R (.ok f) s'
        | .again c' => c'.quiet = true ∧ codeAny (model pr w) A c' R s') (fun e s' => R (.error e) s') s := by
  have W := (Walks.listRev (prog := pr) (w := w) (A := A.in1) hh it l li xs).toS
  have no : S ∉ [it, l] := by simp [Si, Sl]
  have ty : s.TypeIs (.ref it) "list_reverseiterator" := Heap.IsRevIter.typeIs hi
  have ns : Builtin.List.listSameRef (.ref S) (.ref it) = false := by simp [Builtin.List.listSameRef, Si]
  unfold Builtin.List.listExtendWith
  refine wpAny_bind (wpAny_typeOf ty ?_)
  rw [if_neg (by rw [ns]; decide)]
  refine wpAny_bind (wpAny_pyIter_revIter hi ?_)
  refine wpAny_bind (wpAny_holding ?_)
  unfold Builtin.List.listLengthHint
  refine wpAny_bind (wpAny_specialOf ty RT.nolen_lri ?_)
  show wpAny _ A.in1 (specialOf (Value.ref it) (Str.ofString "__length_hint__") >>= _) _ _ _
  refine wpAny_bind (wpAny_specialOf ty RT.hint_lri ?_)
  generalize hid : ("list_reverseiterator.__length_hint__" : String) = idn
  wp_delta
  rw [show splitId idn = some ("list_reverseiterator", "__length_hint__") from by subst hid; decide +kernel]
  subst hid
  refine wpAny_bind (wpAny_isInstance (b := true) ty (by rw [isSubtype_type]; kernel_rfl) ?_)
  refine wpAny_pure ?_
  rw [if_neg (by decide)]
  have z0 : ((xs.size : Nat) : Int) - 1 - ((0 : Nat) : Int) = (xs.size : Int) - 1 := by omega
  refine wpAny_pure ⟨plainId_quiet F.plain_extend_loop _, codeAny_extend_loopS W hn S no res xs.size 0 _ _ _ rfl (Nat.zero_le _) ⟨Nat.zero_le _, by rw [z0]; exact hi, hl⟩ hS (ItemsOf.nil _) fun s' acc c' hm q hacc => ?_⟩
  rw [Moved.eq_with hm]
  refine hR s'.heap s'.toks acc c' (fun b o b1 b2 e => hm.heap b o (fun m => ?_) e) q hacc
  rcases List.mem_cons.mp m with z | m
  · exact b1 z
  · exact b2 (List.mem_singleton.mp m)
theorem init_rev {R : Result → Shared → Prop} {it l S : Addr} {xs : Array Value} (hh : A.handled = none)
    (hi : s.heap.IsRevIter it l ((xs.size : Int) - 1)) (hl : s.heap.IsList l xs) (li : l ≠ it) (Si : S ≠ it) (Sl : S ≠ l) (hn : xs.size ≤ sizeLine)
    (hS : s.heap.get? S = some emptyL)
    (hR : ∀ h' tk acc c', (∀ b o, b ≠ S → b ≠ it → s.heap.get? b = some o → h'.get? b = some o) → h'.get? S = some { cls := .type "list", dict := none, data := .seq acc c', slots := #[] } →
      ItemsOf (fun i v => xs[xs.size - 1 - i]? = some v) acc xs.size → R (.ok (.ret .none)) { s with heap := h', toks := tk }) :
    wpAny (model pr w) A.in1 (Builtin.«list.__init__» ⟨[.ref S, .ref it], []⟩)
      (fun fin s' => match fin with
        | .done f => R (.ok f) s'
        | .again c' => c'.quiet = true ∧ codeAny (model pr w) A c' R s') (fun e s' => R (.error e) s') s := by
  show wpAny _ _ (do
    let old ← Builtin.List.listItems (.ref S)
    Builtin.List.listUpdate (.ref S) (fun _ => #[])
    letGo old.toList.reverse
    Builtin.List.listExtendWith (.ref S) (.ref it) .none) _ _ s
  refine wpAny_bind ?_
  unfold Builtin.List.listItems
  refine wpAny_bind (wpAny_seqItems hS rfl (wpAny_pure ?_))
  show wpAny _ _ (updateSeq S (fun _ => #[]) >>= fun _ =>
    letGo (#[] : Array Value).toList.reverse >>= fun _ => Builtin.List.listExtendWith (.ref S) (.ref it) .none) _ _ s
  refine wpAny_bind (wpAny_updateSeq hS rfl ?_)
  have h2 := Heap.get?_update_self (Obj.mapSeq (fun _ => (#[] : Array Value))) hS rfl
  have ot : ∀ b o, b ≠ S → s.heap.get? b = some o → (s.heap.update S (Obj.mapSeq (fun _ => (#[] : Array Value)))).get? b = some o :=
    fun b o nb e => (Heap.get?_update_other _ _ (Ne.symm nb)).trans e
  refine wpAny_bind (wpAny_letGo ?_)
  have hl2 : (s.heap.update S (Obj.mapSeq (fun _ => (#[] : Array Value)))).IsList l xs := by
    obtain ⟨o, ho, r⟩ := hl
    exact ⟨o, ot l o (Ne.symm Sl) ho, r⟩
  refine ext_rev (s := { s with heap := s.heap.update S (Obj.mapSeq (fun _ => (#[] : Array Value))) }) hh (hi.at fun o e => ot it o (Ne.symm Si) e) hl2 li Si Sl hn .none _ h2 fun h' tk acc c' hk q hacc => ?_
  exact hR h' tk acc c' (fun b o b1 b2 e => hk b o b1 b2 (ot b o b1 e)) q hacc
theorem list_rev {Q : Value → Shared → Prop} {it l : Addr} {xs : Array Value} (hh : A.handled = none)
    (hi : s.heap.IsRevIter it l ((xs.size : Int) - 1)) (hl : s.heap.IsList l xs) (li : l ≠ it) (hn : xs.size ≤ sizeLine)
    (hQ : ∀ h' tk acc c', (∀ b o, b ≠ it → s.heap.get? b = some o → h'.get? b = some o) → h'.get? s.heap.objs.size = some { cls := .type "list", dict := none, data := .seq acc c', slots := #[] } →
      ItemsOf (fun i v => xs[xs.size - 1 - i]? = some v) acc xs.size → Q (.ref s.heap.objs.size) { s with heap := h', toks := tk }) :
    wpAny (model pr w) A (call (.type "list") [.ref it]) Q E s := by
  refine callType_codes (Q₁ := fun ob s₁ => ob = .ref s.heap.objs.size ∧ s₁ = { s with heap := s.heap.push emptyL }) F.called_list
    (F.typeCall_list_1 _) F.entry_list_init (code_list_new _ ⟨rfl, rfl⟩) fun ob s₁ h₁ => ?_
  obtain ⟨rfl, rfl⟩ := h₁
  have hS : (s.heap.push emptyL).get? s.heap.objs.size = some emptyL := Heap.get?_push_size _ rfl
  obtain ⟨oi, hoi, _⟩ := id hi
  obtain ⟨ol, hol, _⟩ := id hl
  refine ⟨⟨_, hS, rfl⟩, F.args_list_init_2 _ _, init_rev (A := A.in1) hh (hi.at fun o e => Heap.get?_push_of_some _ e) (hl.push _) li (Nat.ne_of_gt (Heap.lt_size hoi)) (Nat.ne_of_gt (Heap.lt_size hol)) hn hS fun h' tk acc c' hk q hacc => ?_⟩
  exact ⟨rfl, hQ h' tk acc c' (fun b o nb e => hk b o (Nat.ne_of_lt (Heap.lt_size e)) nb (Heap.get?_push_of_some _ e)) q hacc⟩
end

/-! ### the rules -/
theorem RpA.snoc {K : PySem.W.Frag} {C : Rc} {H : Hp} : ∀ {vs : List V} {ds : List D}, RpA K C H vs ds → RpA K C H vs.reverse ds.reverse
  | _, _, .nil => .nil
  | _, _, .cons h t => by
    rw [List.reverse_cons, List.reverse_cons]
    exact (RpA.snoc t).app (.cons h .nil)
def tLstRev (K : PySem.W.Frag) (te : TE) : TE := fun σ H Q => te σ H fun v H1 =>
  ∃ (a : Addr) (xs : List V), v = .ref a ∧ SqL K H1 a xs ∧ ∀ q, H1 q = none → Q (.ref q) (upd H1 q (.lst xs.reverse))
section
variable {X : Cx} {e : Expr}
theorem pe_lstRev {te : TE} {p p2 pos pos2 : Pos} (hc : X.calm = true) (hg : Gl X "list") (hm : X.mg "list" = none) (hg2 : Gl X "reversed") (hm2 : X.mg "reversed" = none) (he : PE X e te)
    (z1 : starEach [e] X.env = (false, eval e X.env) :: starEach [] X.env := by rfl)
    (z2 : starEach [.Call (.Name "reversed" p2) [e] [] pos2] X.env = (false, eval (.Call (.Name "reversed" p2) [e] [] pos2) X.env) :: starEach [] X.env := by rfl) :
    PE X (.Call (.Name "list" p) [.Call (.Name "reversed" p2) [e] [] pos2] [] pos) (tLstRev X.K te) := by
  refine ⟨fun pins s σ H Q I h => ?_⟩
  refine Call_ (ld_blt I hg hm boot_list (PyProof.Rows.callWith_type1 (args_cons (Call_ (ld_blt I hg2 hm2 PyProof.Rows.boot_reversed
    (PyProof.Rows.callWith_type1 (args_cons (thn (he.run pins s σ H _ I h) fun u s1 ⟨v, H1, I1, r1, q1⟩ => args_nil ?_) z1) z1 rfl))) z2) z2 rfl))
  obtain ⟨a, xs, ev, hq, q⟩ := q1
  subst ev
  obtain rfl : u = Value.ref a := r1
  obtain ⟨its, rv, pl, hz⟩ := I1.list hq
  refine call_reversed_list pl.isList (args_nil ?_)
  have hl := pl.isList
  obtain ⟨ol, hol, _⟩ := id hl
  have ne : a ≠ s1.heap.objs.size := Nat.ne_of_lt (Heap.lt_size hol)
  have hn : its.toArray.size ≤ sizeLine := by rw [List.size_toArray, ← rv.length]; exact hz
  refine list_rev (s := { s1 with heap := s1.heap.push (revObj a ((its.toArray.size : Int) - 1)) }) (I1.ok.hd hc) ⟨_, Heap.get?_push_size _ rfl, rfl, rfl⟩ (hl.push _) ne hn fun h' tk acc c' hk w0 hi => ?_
  have k : ∀ b u, s1.heap.get? b = some u → h'.get? b = some u := fun b u e => hk b u (Nat.ne_of_lt (Heap.lt_size e)) (Heap.get?_push_of_some _ e)
  have up : s1.heap.objs.size ≤ (s1.heap.push (revObj a ((its.toArray.size : Int) - 1))).objs.size := by simp [Heap.push]
  refine ⟨.ref (s1.heap.push (revObj a ((its.toArray.size : Int) - 1))).objs.size, upd H1 _ (.lst xs.reverse), I1.laid (t' := tk) k up (show ObjOk X.prog X.w _ _ _ (.lst xs.reverse) from ⟨by rw [List.length_reverse]; exact hz, acc.toList, c', RT.vals_rev rv hi, ?_⟩), rfl, q _ (I1.hok.fresh up)⟩
  rw [Array.toArray_toList]
  exact w0
end
open AutoSeq1 (wpAny_loadPart')
theorem meets_enum1 {v : Value} {o : Obj} {Hc : Heap → Prop} (B : Begins v o Hc) :
    Meets (Builtin.«enumerate.__new__» ⟨[.type "enumerate", v], []⟩) (fun _ R s => Hc s.heap ∧
      R (.ok (.ret (.ref (s.heap.push o).objs.size)))
        { s with heap := (s.heap.push o).push { cls := .type "enumerate", data := .fields #[.none, .bool false, .ref s.heap.objs.size, rawInt 0, .none, .none] } }) :=
  .of_wp fun pr w A R s hh => by
    obtain ⟨hp, g, d, tk, os⟩ := s
    obtain ⟨b0, z⟩ := hh
    have hsub := sub_enumerate
    have it : ∀ {A' : Around} {E : Value → Shared → Prop} {Q : Value → Shared → Prop}, Q (.ref hp.objs.size) ⟨hp.push o, g, d, tk, os⟩ → wpAny (model pr w) A' (pyIter v) Q E ⟨hp, g, d, tk, os⟩ :=
      fun q => B.iter pr w _ _ ⟨hp, g, d, tk, os⟩ _ b0 q
    wp_walk using it
    refine wpAny_stack_any fun st => wpAny_pure ?_
    split
    · rename_i c _ _ _ _ _
      cases (c == Value.type "enumerate")
      · wp_walk using it
        exact ⟨_, rfl, z⟩
      · wp_walk using it
        exact ⟨_, rfl, z⟩
    · wp_walk using it
      exact ⟨_, rfl, z⟩
section
variable {pr : Program} {w : World} {A : Around} {E : Value → Shared → Prop} {s : Shared}
theorem enum_one {v : Value} {o : Obj} {Hc : Heap → Prop} {Q : Value → Shared → Prop} (B : Begins v o Hc) (b0 : Hc s.heap)
    (h : ∀ h', IsEnum h' (s.heap.objs.size + 1) s.heap.objs.size 0 .none → h'.get? s.heap.objs.size = some o →
      (∀ b u, s.heap.get? b = some u → h'.get? b = some u) → Q (.ref (s.heap.objs.size + 1)) { s with heap := h' }) :
    wpAny (model pr w) A (call (.type "enumerate") [v]) Q E s := by
  refine callType_new F.called_enumerate (by decide) (F.typeCall_enumerate_1 _) (F.newCall_enumerate_1 _)
    (fun ob => F.args_object_init_2 ob _) F.entry_enumerate_new (meets_enum1 B) ⟨b0, ?_⟩
  have n1 : (s.heap.push o).objs.size = s.heap.objs.size + 1 := Heap.size_push ..
  show _ ∧ _
  rw [n1]
  have q : IsEnum ((s.heap.push o).push { cls := .type "enumerate", data := .fields #[.none, .bool false, .ref s.heap.objs.size, rawInt 0, .none, .none] }) (s.heap.objs.size + 1) s.heap.objs.size 0 .none := by
    have t := Heap.get?_push_size (s.heap.push o) (o := { cls := .type "enumerate", data := .fields #[.none, .bool false, .ref s.heap.objs.size, rawInt 0, .none, .none] }) rfl
    rw [n1] at t
    exact t
  exact ⟨⟨_, q, rfl⟩, h _ q (Heap.get?_push_of_some _ (Heap.get?_push_size _ B.free)) fun b u e => Heap.get?_push_of_some _ (Heap.get?_push_of_some _ e)⟩
end
/-- the tuple at a, each item in a new pair -/
def IteT (K : PySem.W.Frag) (a : Addr) : It where
  go i H := ∃ (xs : List V) (x : V), SqT K H a xs ∧ xs[i]? = some x
  yld i H v H' := ∃ T x, v = .ref T ∧ H T = none ∧ H' = upd H T (.tup [.int (i : Nat), x]) ∧ ∀ xs, SqT K H a xs → xs[i]? = some x
  stop i H := ∃ xs : List V, SqT K H a xs ∧ xs.length ≤ i
theorem walk_enumT {K : PySem.W.Frag} {a : Addr} {xs : List V} : Walk (IteT K a) xs.length (fun H => SqT K H a xs) (YPair (fun i => some (.int (i : Nat))) (fun i => xs[i]?)) where
  goes i _ hi q := ⟨xs, xs[i], q, by simp [hi]⟩
  stops _ q := ⟨xs, q, Nat.le_refl _⟩
  yields i H v H' _ q y := by
    obtain ⟨T, x, h1, h2, h3, h4⟩ := y
    exact ⟨T, .int (i : Nat), x, h1, h2, h3, rfl, h4 xs q⟩
theorem turn_enumT {P : Program} {w : World} {K : PySem.W.Frag} {elts : List Expr} {kk : Nat} {tp : Pos} (a e it : Addr) :
    Turn P w K (.Tuple elts kk tp) (IteT K a) [e, it] e (fun i h => (∃ old, IsEnum h e it ((i : Nat) : Int) old) ∧ h.IsTupleIter it a i ∧ e ≠ it) where
  mem := by simp
  obj i h st b hb := by
    obtain ⟨⟨old, he⟩, ⟨o, ho, hc, hd⟩, _⟩ := st
    have z : b = e ∨ b = it := by simpa using hb
    rcases z with z | z
    · rw [z]; exact ⟨_, he, fun v q => nomatch q⟩
    · rw [z]; exact ⟨o, ho, fun v q => by rw [hd] at q; cases q⟩
  keep i h h' st k := by
    obtain ⟨⟨old, he⟩, hi, ne⟩ := st
    exact ⟨⟨old, k e (by simp) _ he⟩, hi.at fun o q => k it (by simp) o q, ne⟩
  item := by
    intro X hP hw hK hc i pins s σ H E I hf st hg
    subst hP hw hK
    obtain ⟨⟨old, he⟩, hit, ne⟩ := st
    obtain ⟨xs, x, hq, hx⟩ := hg
    obtain ⟨its, rv, p, hz⟩ := I.tuple hq
    obtain ⟨u0, hu0, ru0⟩ := rv.get hx
    have hel : e < s.heap.objs.size := Heap.lt_size he
    obtain ⟨oi, hoi, ci, di⟩ := id hit
    have hil : it < s.heap.objs.size := Heap.lt_size hoi
    obtain ⟨oa, hoa, ca, _⟩ := id p
    have nai : a ≠ it := fun z => by
      rw [z, hoi] at hoa
      cases hoa
      rw [ci] at ca
      simp at ca
    have nea : e ≠ a := fun z => by
      rw [← z] at hoa
      have : s.heap.get? e = some _ := he
      rw [this] at hoa
      cases hoa
      simp at ca
    have D := Draws.tuple (prog := X.prog) (w := X.w) (A := X.A.in1) (I.ok.hd hc) it a nai its.toArray
    have hlt : i < its.toArray.size := by
      have l := rv.length
      have := (List.getElem?_eq_some_iff.mp hx).1
      rw [List.size_toArray]
      omega
    refine wpAny_pyNext_enum_itemC D he ⟨hit, p⟩ hlt ne (by simp [ne, nea]) fun u h' tk hu ho st2 hT hsz hk => ?_
    have eu : u = u0 := by
      have h1 : its[i]? = some u := by simpa using hu
      rw [hu0] at h1
      exact (Option.some.inj h1).symm
    subst eu
    refine ⟨_, rfl, wpAny_letOwnedTupleGo_enum (s := { s with heap := h', toks := tk + 1 }) ho fun h2 he2 sb => ?_⟩
    have hT2 : h2.get? s.heap.objs.size = some { cls := .type "tuple", data := .seq #[.int i tk, u] } := (sb.2 _ (Nat.ne_of_gt hel)).trans hT
    have nw : ObjOk X.prog X.w (upd H s.heap.objs.size (.tup [.int (i : Nat), x])) h2 s.heap.objs.size (.tup [.int (i : Nat), x]) :=
      ⟨by show 2 ≤ sizeLine; decide, [.int i tk, u], .cons ⟨_, rfl⟩ (.cons ru0 .nil), ⟨_, hT2, rfl, _, rfl⟩⟩
    have I1 : Inv X pins σ (upd H s.heap.objs.size (.tup [.int (i : Nat), x])) { s with heap := h2, toks := tk + 1 } :=
      I.turnedNew (ch := [e, it]) (fun b ob hb q => (sb.2 b (fun z => hb (by simp [z]))).trans (hk b ob (fun z => hb (by simp [z])) (fun z => hb (by simp [z])) q)) hf (Nat.le_refl _) nw
    refine ⟨.ref s.heap.objs.size, _, I1, rfl, ⟨_, x, rfl, I.hok.fresh (Nat.le_refl _), rfl, fun ys hy => by rw [I.tuple_inj hy hq]; exact hx⟩, ⟨⟨u, ?_⟩, st2.1.at fun o q => (sb.2 it (Ne.symm ne)).trans q, ne⟩, fun b hb => ?_⟩
    · rw [show ((i + 1 : Nat) : Int) = (i : Int) + 1 by omega]
      exact he2
    · have hb' : b < s.heap.objs.size := by
        have z : b = e ∨ b = it := by simpa using hb
        rcases z with z | z
        · rw [z]; exact hel
        · rw [z]; exact hil
      rw [upd_ne (Nat.ne_of_lt hb')]
      exact (hf b hb).1
  done := by
    intro X hP hw hK hc i pins s σ H E I hf st hg
    subst hP hw hK
    obtain ⟨⟨old, he⟩, hit, ne⟩ := st
    obtain ⟨xs, hq, hx⟩ := hg
    obtain ⟨its, rv, p, hz⟩ := I.tuple hq
    obtain ⟨f0, f1, f2, f3, f4, f5⟩ := hf it (by simp)
    have hl := rv.length
    have D : Draws X.prog X.w X.A.in1 it [it, a] 0 (fun _ _ => False) (fun _ h => h.IsTupleIter it a i ∧ h.IsTuple a its.toArray) :=
      ⟨fun _ _ st => let ⟨o, ho, _⟩ := st.1; ⟨o, ho⟩, fun _ _ _ st hk => ⟨st.1.at fun o e => hk it (by simp) o e, st.2.at fun o e => hk a (by simp) o e⟩,
        fun i s Q E hi _ _ => absurd hi (Nat.not_lt_zero _), fun s Q E st hE => wpAny_nextOf_tuple_end (I.ok.hd hc) st.1 st.2 (by simp; omega) hE⟩
    exact wpAny_pyNext_enum_endD D he ⟨hit, p⟩ fun h' eb => ⟨rfl, I.turned (t' := s.toks) (fun b o hb q => eb b o hb q) f0 f1 f3 f4 f5⟩
  self A i s Q E st h := by
    obtain ⟨⟨_, he⟩, _⟩ := st
    exact wpAny_pyIter_enum he h
def iEnumT (K : PySem.W.Frag) (ta : TA) : TI := fun σ H R => ta σ H fun vs H1 => ∃ a xs, vs = [.ref a] ∧ SqT K H1 a xs ∧ R (IteT K a) H1
theorem pi_enumT {X : Cx} {e : Expr} {ta : TA} {p pos tp : Pos} {elts : List Expr} {kk : Nat} (hg : Gl X "enumerate") (hm : X.mg "enumerate" = none) (ha : PA X [e] ta)
    (hs : starEach [e] X.env = [(false, eval e X.env)] := by rfl) : PI X (.Tuple elts kk tp) (.Call (.Name "enumerate" p) [e] [] pos) (iEnumT X.K ta) := by
  refine ⟨fun pins s σ H R I h => ?_⟩
  refine Call_ (ld_blt I hg hm boot_enumerate (PyProof.Rows.callWith_type1
    (thn (ha.run pos pins s σ H _ I h) fun us s1 ⟨vs, H1, I1, r1, q1⟩ => ?_) hs rfl))
  obtain ⟨a, xs, ex, hq, q⟩ := q1
  subst ex
  cases r1 with
  | cons r rr =>
    cases rr
    cases r
    obtain ⟨its, rv, pt, hz⟩ := I1.tuple hq
    refine enum_one (begins_tuple a its.toArray) pt fun h' he hi hk => wpAny_pyIter_enum he ?_
    have I2 : Inv X pins σ H1 { s1 with heap := h' } := I1.kept (t' := s1.toks) hk
    refine ⟨s1.heap.objs.size + 1, [s1.heap.objs.size + 1, s1.heap.objs.size], _, _, H1, rfl, I2, turn_enumT a (s1.heap.objs.size + 1) s1.heap.objs.size, ⟨⟨.none, he⟩, ⟨_, hi, rfl, rfl⟩, Nat.succ_ne_self _⟩, fun b hb => ?_, q⟩
    have le : s1.heap.objs.size ≤ b := by
      have z : b = s1.heap.objs.size + 1 ∨ b = s1.heap.objs.size := by simpa using hb
      rcases z with z | z
      · rw [z]; exact Nat.le_add_right _ _
      · rw [z]; exact Nat.le_refl _
    exact I1.fpOk le (I1.hok.fresh le)
end Tx

set_option Elab.async false
set_option linter.all false
set_option maxRecDepth 100000
set_option maxHeartbeats 4000000
/-! A7: what is walked, targets, comprehensions. -/
namespace Tx
open PySem L2 En EnL

/-- what one turn of a walk hands on -/
def Yields (K : PySem.W.Frag) (W : Vp) (F' : Hp) (ds : List D) (Y : Nat → Hp → V → Hp → Prop) : Prop :=
  ∀ i H1 v H2 F1, i < ds.length → Y i H1 v H2 → Same F' F1 → Same F1 H1 → ∃ d F2, ds[i]? = some d ∧ Same H1 H2 ∧ Ext F1 H1 F2 ∧ Same F2 H2 ∧ Rp K W.rc F2 v d
/-- with b: the body of a loop may run between the turns -/
def tI {α : Type} [En α] (K : PySem.W.Frag) (W : Vp) (E : L2.St → XK) (L : Nat) (ρ : Env) (b : Bool) (m : R (List α)) : TI := fun σ H RR => ∃ H0 F, EnvS K W.rc H0 F H L σ ρ ∧ Hd (E σ) W H m fun xs =>
  ∀ J H' F' G Y, Same H H' → Ext F H F' → Same F' H' → xs.length ≤ sizeLine → Walk J xs.length G Y → (∀ H2, Same H' H2 → G H2) → (b = true → ∀ H2, Same F' H2 → Same H0 H2 → G H2) → Yields K W F' (xs.map en) Y → RR J H'
abbrev VI {α : Type} [En α] (X : Cx) (W : Vp) (E : L2.St → XK) (ρ : Env) (b : Bool) (tg e : Expr) (m : R (List α)) : Prop := PI X tg e (tI X.K W E X.N.length ρ b m)
theorem pe_len {X : Cx} {e : Expr} {t : TE} (h : PE X e t) : PE X e (fun σ H Q => t σ H fun v H1 => LenOk H1 → Q v H1) := ⟨fun pins s σ H Q I q =>
  wpAny_mono (h.run pins s σ H _ I q) (fun _ _ ⟨v, H1, I1, r, z⟩ => ⟨v, H1, I1, r, z (lenOk I1)⟩) fun _ _ z => z⟩
theorem pa_len {X : Cx} {es : List Expr} {t : TA} (h : PA X es t) : PA X es (fun σ H Q => t σ H fun v H1 => LenOk H1 → Q v H1) := ⟨fun p pins s σ H Q I q =>
  wpAny_mono (h.run p pins s σ H _ I q) (fun _ _ ⟨v, H1, I1, r, z⟩ => ⟨v, H1, I1, r, z (lenOk I1)⟩) fun _ _ z => z⟩
section
variable {X : Cx} {W : Vp} {E : L2.St → XK} {ρ : Env} {tg e a b : Expr} {b0 b1 : Bool} {α β : Type} [En α] [En β]
theorem get_map {f : α → D} {xs : List α} {i : Nat} {x : α} (h : xs[i]? = some x) : (xs.map f)[i]? = some (f x) := by rw [List.getElem?_map, h]; rfl
/-- the list of a value that may be read -/
theorem vi_lo {m : R (List α)} (h : VR X W E ρ b0 (.lst .frz) e m) : VI X W E ρ b0 tg e m := (pi_list (pe_len h)).wk fun σ H RR ⟨H0, F, k, q⟩ => ⟨H0, F, k, q.imp fun xs m1 v H1 F1 fp s1 x1 f1 w1 n1 hlen => by
  have w2 : Ow X.K W.rc F1 H1 (.lst .frz) v (.list (xs.map en)) fp := w1
  cases w2 with
  | sc z _ => cases z
  | lst h1 h2 h3 =>
    rename_i p vs fp
    obtain ⟨rfl, r⟩ := h2.toRp
    have l : vs.length = xs.length := by rw [r.len, List.length_map]
    have sl : SqL X.K H1 p vs := SqL.of h1
    refine ⟨p, rfl, ⟨vs, sl⟩, m1 _ H1 F1 _ _ s1 x1 f1 (by rw [← l]; exact hlen.1 p vs (.inl h1)) (by rw [← l]; exact walk_list (K := X.K) (a := p) (xs := vs)) (fun H2 z => SqL.of (z _ _ h1)) (fun hb H2 z z0 => ?_) fun i Ha u Hb Fa hi y z1 z2 => ?_⟩
    · obtain ⟨o, e'⟩ := n1 hb p List.mem_cons_self
      have e2 := s1 _ _ (k.same _ _ e')
      rw [h1] at e2
      cases e2
      exact SqL.of (z0 _ _ e')
    · obtain ⟨e1, e2⟩ := y
      obtain ⟨d, q1, q2⟩ := r.getV e2
      subst e1
      exact ⟨d, Fa, q1, Same.refl _, Ext.refl _ _, z2, q2.up z1⟩⟩
theorem vi_list {m : R (List α)} (h : VE X W E ρ .frz e m) : VI X W E ρ b0 tg e m := (pi_list (pe_len h)).wk fun σ H RR ⟨H0, F, k, q⟩ => ⟨H0, F, k, q.imp fun xs m1 v H1 F1 fp s1 x1 f1 w1 n1 hlen => by
  have r1 := w1.toRp.2
  cases r1 with
  | @lst p vs ds h1 r =>
    have l : vs.length = xs.length := by rw [r.len, List.length_map]
    refine ⟨p, rfl, ⟨vs, sqr_l (sqr_mono f1 h1)⟩, m1 _ H1 F1 _ _ s1 x1 f1 (by rw [← l]; exact sqr_len hlen (sqr_mono f1 h1)) (by rw [← l]; exact walk_list (K := X.K) (a := p) (xs := vs)) (fun H2 z => sqr_l (sqr_mono (f1.trans z) h1)) (fun _ H2 z _ => sqr_l (sqr_mono z h1)) fun i Ha u Hb Fa hi y z1 z2 => ?_⟩
    obtain ⟨e1, e2⟩ := y
    obtain ⟨d, q1, q2⟩ := r.getV e2
    subst e1
    exact ⟨d, Fa, q1, Same.refl _, Ext.refl _ _, z2, q2.up z1⟩⟩
theorem sqt_len {K : PySem.W.Frag} {H : Hp} {a : Addr} {xs : List V} (l : LenOk H) (h : SqT K H a xs) : xs.length ≤ sizeLine := by
  rcases h with h | ⟨o, its, n, _, _, _, h2, h3⟩
  · exact l.2.1 a xs h
  · have := Vals.length h3
    simp at this
    omega
theorem vi_tup {m : R (Tu α)} (h : VE X W E ρ .frz e m) : VI X W E ρ b0 tg e (m.map (·.l)) := (pi_tup (pe_len h)).wk fun σ H RR ⟨H0, F, k, q⟩ => ⟨H0, F, k, (hd_map q).imp fun xs m1 v H1 F1 fp s1 x1 f1 w1 n1 hlen => by
  have r1 := w1.toRp.2
  cases r1 with
  | @tup p vs ds h1 r =>
    have l : vs.length = xs.l.length := by rw [r.len, List.length_map]
    refine ⟨p, rfl, ⟨vs, sqt_mono f1 h1⟩, m1 _ H1 F1 _ _ s1 x1 f1 (by rw [← l]; exact sqt_len hlen (sqt_mono f1 h1)) (by rw [← l]; exact walk_tup (K := X.K) (a := p) (xs := vs)) (fun H2 z => sqt_mono (f1.trans z) h1) (fun _ H2 z _ => sqt_mono z h1) fun i Ha u Hb Fa hi y z1 z2 => ?_⟩
    obtain ⟨e1, e2⟩ := y
    obtain ⟨d, q1, q2⟩ := r.getV e2
    subst e1
    exact ⟨d, Fa, q1, Same.refl _, Ext.refl _ _, z2, q2.up z1⟩⟩
theorem rangeI_len (lo hi : Int) : (rangeI lo hi).length = (hi - lo).toNat := by simp [rangeI]
theorem rangeI_get {lo hi : Int} {i : Nat} (h : i < (rangeI lo hi).length) : (rangeI lo hi)[i]? = some (lo + (i : Nat)) := by
  rw [rangeI_len] at h
  simp [rangeI, h]
theorem rng_yields {K : PySem.W.Frag} {lo hi : Int} {F' : Hp} : Yields K W F' ((rangeI lo hi).map en) (YFn fun i => .int (lo + (i : Nat))) := fun i Ha v Hb Fa h y z1 z2 => by
  obtain ⟨e1, e2⟩ := y
  subst e1; subst e2
  rw [List.length_map] at h
  exact ⟨_, Fa, get_map (rangeI_get h), Same.refl _, Ext.refl _ _, z2, .int _⟩
theorem vi_rng1 {m : R (Int × Unit)} {p pos : Pos} (hg : Gl X "range") (hm : X.mg "range" = none) (ha : VA X W E ρ .frz [a] m) (hs : starEach [a] X.env = [(false, eval a X.env)] := by rfl) : VI X W E ρ b0 tg (.Call (.Name "range" p) [a] [] pos) (m.bind fun x => rng1 x.1) :=
  (pi_range1 hg hm ha hs).wk fun σ H RR ⟨H0, F, k, q⟩ => ⟨H0, F, k, (hd_bind q).imp fun x m1 vs H1 F1 fp s1 x1 f1 w1 _ => by
    have r1 := w1.toRp.2
    obtain ⟨j, u⟩ := x
    have ev : vs = [.int j] := by
      have r1 : RpA X.K W.rc F1 vs [PyData.int j] := r1
      cases r1 with
      | cons r t => cases r; cases t; rfl
    subst ev
    have m1 : Hd (E σ) W H (rng1 j) _ := m1
    unfold rng1 at m1
    by_cases c : -(2 ^ 62) ≤ j ∧ j ≤ big
    · rw [if_pos c] at m1
      have w := walk_range (lo := 0) (n := j.toNat)
      have l : (rangeI 0 j).length = j.toNat := by rw [rangeI_len]; simp
      have b1 : (big : Int) < 2 ^ 62 := by decide
      refine ⟨j, rfl, c.1, by omega, m1 _ H1 F1 _ _ s1 x1 f1 (by rw [l]; exact Nat.le_trans (by omega : j.toNat ≤ big) big_le) (by rw [l]; exact w) (fun _ _ => True.intro) (fun _ _ _ _ => True.intro) rng_yields⟩
    · rw [if_neg c] at m1; exact m1.elim⟩
theorem vi_rng2 {m : R (Int × Int × Unit)} {p pos : Pos} (hg : Gl X "range") (hm : X.mg "range" = none) (ha : VA X W E ρ .frz [a, b] m) (hs : starEach [a, b] X.env = [(false, eval a X.env), (false, eval b X.env)] := by rfl) (hs2 : starEach [b] X.env = [(false, eval b X.env)] := by rfl) :
    VI X W E ρ b0 tg (.Call (.Name "range" p) [a, b] [] pos) (m.bind fun x => rng2 x.1 x.2.1) :=
  (pi_range2 hg hm ha hs hs2).wk fun σ H RR ⟨H0, F, k, q⟩ => ⟨H0, F, k, (hd_bind q).imp fun x m1 vs H1 F1 fp s1 x1 f1 w1 _ => by
    have r1 := w1.toRp.2
    obtain ⟨i, j, u⟩ := x
    have ev : vs = [.int i, .int j] := by
      have r1 : RpA X.K W.rc F1 vs [PyData.int i, PyData.int j] := r1
      cases r1 with
      | cons r t =>
        cases r
        cases t with
        | cons r t => cases r; cases t; rfl
    subst ev
    have m1 : Hd (E σ) W H (rng2 i j) _ := m1
    unfold rng2 at m1
    by_cases c : -(2 ^ 62) ≤ i ∧ i < 2 ^ 62 ∧ -(2 ^ 62) ≤ j ∧ j < 2 ^ 62 ∧ j - i ≤ big
    · rw [if_pos c] at m1
      have l : (rangeI i j).length = (j - i).toNat := rangeI_len i j
      refine ⟨i, j, rfl, ⟨c.1, c.2.1, c.2.2.1, c.2.2.2.1⟩, m1 _ H1 F1 _ _ s1 x1 f1 (by rw [l]; exact Nat.le_trans (by omega : (j - i).toNat ≤ big) big_le) (by rw [l]; exact walk_range (lo := i) (n := (j - i).toNat)) (fun _ _ => True.intro) (fun _ _ _ _ => True.intro) rng_yields⟩
    · rw [if_neg c] at m1; exact m1.elim⟩
theorem enumL_len : ∀ (k : Nat) (ds : List α), (enumL k ds).length = ds.length
  | _, [] => rfl
  | k, d :: ds => congrArg (· + 1) (enumL_len (k + 1) ds)
theorem enumL_get : ∀ (k : Nat) (ds : List α) (i : Nat) (d : α), ds[i]? = some d → (enumL k ds)[i]? = some (((k + i : Nat) : Int), d)
  | _, [], _, _, h => by simp at h
  | k, d :: ds, 0, _, h => by simp at h; subst h; rfl
  | k, d :: ds, i + 1, e, h => by
    have := enumL_get (k + 1) ds i e (by simpa using h)
    rw [show k + 1 + i = k + (i + 1) by omega] at this
    simpa [enumL] using this
theorem getV' {K : PySem.W.Frag} {C : Rc} {F : Hp} {vs : List V} {xs : List α} {i : Nat} {v : V} (r : RpA K C F vs (xs.map en)) (h : vs[i]? = some v) : ∃ x, xs[i]? = some x ∧ Rp K C F v (en x) := by
  obtain ⟨d, q1, q2⟩ := r.getV h
  rw [List.getElem?_map] at q1
  cases z : xs[i]? with
  | none => rw [z] at q1; cases q1
  | some x => rw [z] at q1; cases q1; exact ⟨x, rfl, q2⟩
theorem enum_yields {K : PySem.W.Frag} {F1 : Hp} {vs : List V} {xs : List α} (r : RpA K W.rc F1 vs (xs.map en)) : Yields K W F1 ((enumL 0 xs).map en) (YPair (fun i => some (.int (i : Nat))) (fun i => vs[i]?)) := fun i Ha v Hb Fa hi y z1 z2 => by
  obtain ⟨T, y1, y2, e1, e2, e3, e4, e5⟩ := y
  cases e4
  obtain ⟨d, q1, q2⟩ := getV' r e5
  subst e1; subst e3
  refine ⟨_, upd Fa T (.tup [.int (i : Nat), y2]), get_map (enumL_get 0 xs i d q1), same_upd e2, Ext.one e2 z2, same_upd2 z2, ?_⟩
  rw [Nat.zero_add]
  exact .tup (SqT.of upd_same) (.cons (.int _) (.cons ((q2.up z1).up (Ext.one e2 z2).up) .nil))
section
variable {p pos tpos : Pos} {elts : List Expr} {kk : Nat}
theorem vi_enum {m : R (List α)} (hg : Gl X "enumerate") (hm : X.mg "enumerate" = none) (he : VE X W E ρ .frz e m) (hs : starEach [e] X.env = [(false, eval e X.env)] := by rfl) : VI X W E ρ b0 (.Tuple elts kk tpos) (.Call (.Name "enumerate" p) [e] [] pos) (m.map (enumL 0)) :=
  (pi_enum hg hm (pa_cons (pe_len he) pa_nil (show _ from hs)) hs).wk fun σ H RR ⟨H0, F, k, q⟩ => ⟨H0, F, k, (hd_map q).imp fun xs m1 v H1 F1 fp s1 x1 f1 w1 n1 hlen => by
    have r1 := w1.toRp.2
    cases r1 with
    | @lst p vs ds h1 r =>
      have l : vs.length = xs.length := by rw [r.len, List.length_map]
      refine ⟨p, vs, rfl, sqr_l (sqr_mono f1 h1), m1 _ H1 F1 _ _ s1 x1 f1 (by rw [enumL_len, ← l]; exact sqr_len hlen (sqr_mono f1 h1)) (by rw [enumL_len, ← l]; exact walk_enum (K := X.K) (a := p) (xs := vs)) (fun H2 z => sqr_l (sqr_mono (f1.trans z) h1)) (fun _ H2 z _ => sqr_l (sqr_mono z h1)) (enum_yields r)⟩⟩
theorem vi_enumR {m : R (List α)} (hg : Gl X "enumerate") (hm : X.mg "enumerate" = none) (he : VR X W E ρ b0 (.lst .frz) e m) (hs : starEach [e] X.env = [(false, eval e X.env)] := by rfl) : VI X W E ρ b0 (.Tuple elts kk tpos) (.Call (.Name "enumerate" p) [e] [] pos) (m.map (enumL 0)) :=
  (pi_enum hg hm (pa_cons (pe_len he) pa_nil (show _ from hs)) hs).wk fun σ H RR ⟨H0, F, k, q⟩ => ⟨H0, F, k, (hd_map q).imp fun xs m1 v H1 F1 fp s1 x1 f1 w1 n1 hlen => by
    have w2 : Ow X.K W.rc F1 H1 (.lst .frz) v (.list (xs.map en)) fp := w1
    cases w2 with
    | sc z _ => cases z
    | lst h1 h2 h3 =>
      rename_i p vs fp
      obtain ⟨rfl, r⟩ := h2.toRp
      have l : vs.length = xs.length := by rw [r.len, List.length_map]
      have sl : SqL X.K H1 p vs := SqL.of h1
      refine ⟨p, vs, rfl, sl, m1 _ H1 F1 _ _ s1 x1 f1 (by rw [enumL_len, ← l]; exact hlen.1 p vs (.inl h1)) (by rw [enumL_len, ← l]; exact walk_enum (K := X.K) (a := p) (xs := vs)) (fun H2 z => SqL.of (z _ _ h1)) (fun hb H2 z z0 => ?_) (enum_yields r)⟩
      obtain ⟨o, e'⟩ := n1 hb p List.mem_cons_self
      have e2 := s1 _ _ (k.same _ _ e')
      rw [h1] at e2
      cases e2
      exact SqL.of (z0 _ _ e')⟩
theorem vi_enumT {m : R (Tu α)} (hg : Gl X "enumerate") (hm : X.mg "enumerate" = none) (he : VE X W E ρ .frz e m) (hs : starEach [e] X.env = [(false, eval e X.env)] := by rfl) : VI X W E ρ b0 (.Tuple elts kk tpos) (.Call (.Name "enumerate" p) [e] [] pos) (m.map fun t => enumL 0 t.l) :=
  (pi_enumT hg hm (pa_cons (pe_len he) pa_nil (show _ from hs)) hs).wk fun σ H RR ⟨H0, F, k, q⟩ => ⟨H0, F, k, (hd_map q).imp fun xs m1 v H1 F1 fp s1 x1 f1 w1 n1 hlen => by
    have r1 := w1.toRp.2
    cases r1 with
    | @tup p vs ds h1 r =>
      have l : vs.length = xs.l.length := by rw [r.len, List.length_map]
      refine ⟨p, vs, rfl, sqt_mono f1 h1, m1 _ H1 F1 _ _ s1 x1 f1 (by rw [enumL_len, ← l]; exact sqt_len hlen (sqt_mono f1 h1)) (by rw [enumL_len, ← l]; exact walk_enumT (K := X.K) (a := p) (xs := vs)) (fun H2 z => sqt_mono (f1.trans z) h1) (fun _ H2 z _ => sqt_mono z h1) (enum_yields r)⟩⟩
theorem zip_get : ∀ (as : List α) (bs : List β) (i : Nat) (a : α) (b : β), as[i]? = some a → bs[i]? = some b → (as.zip bs)[i]? = some (a, b) := fun as bs i a b h h' => by
  rw [List.getElem?_zip_eq_some]; exact ⟨h, h'⟩
theorem zip_yields {K : PySem.W.Frag} {F1 : Hp} {vs ws : List V} {xs : List α} {ys : List β} (r : RpA K W.rc F1 vs (xs.map en)) (r' : RpA K W.rc F1 ws (ys.map en)) : Yields K W F1 ((xs.zip ys).map en) (YPair (fun i => vs[i]?) (fun i => ws[i]?)) := fun i Ha v Hb Fa hi y z1 z2 => by
  obtain ⟨T, y1, y2, e1, e2, e3, e4, e5⟩ := y
  obtain ⟨d, q1, q2⟩ := getV' r e4
  obtain ⟨d', q1', q2'⟩ := getV' r' e5
  subst e1; subst e3
  refine ⟨_, upd Fa T (.tup [y1, y2]), get_map (zip_get xs ys i d d' q1 q1'), same_upd e2, Ext.one e2 z2, same_upd2 z2, ?_⟩
  exact .tup (SqT.of upd_same) (.cons ((q2.up z1).up (Ext.one e2 z2).up) (.cons ((q2'.up z1).up (Ext.one e2 z2).up) .nil))
theorem vi_zip {m : R (List α)} {n : R (List β)} (hg : Gl X "zip") (hm : X.mg "zip" = none) (ha : VE X W E ρ .frz a m) (hb : VE X W E ρ .frz b n)
    (hs : starEach [a, b] X.env = (false, eval a X.env) :: starEach [b] X.env := by rfl) (hpl : (backTo pos (starEach [b] X.env)).any (·.1) = false := by rfl) (hs2 : starEach [b] X.env = (false, eval b X.env) :: starEach [] X.env := by rfl) :
    VI X W E ρ b0 (.Tuple elts kk tpos) (.Call (.Name "zip" p) [a, b] [] pos) (m.bind fun xs => n.bind fun ys => .ok (xs.zip ys)) :=
  (pi_zip hg hm (pa_cons ha (pa_cons (pe_len hb) pa_nil hs2) hs) hs hpl).wk fun σ H RR ⟨H0, F, k, q⟩ => ⟨H0, F, k, (hd_bind q).imp fun xs q1 v H1 F1 fp s1 x1 f1 w1 _ => ⟨H0, F1, k.grow s1 x1 f1, ((hd_bind q1).heap s1).imp fun ys m1 u H2 F2 fq s2 x2 f2 w2 _ hlen => by
    have r1 := w1.toRp.2
    have r2 := w2.toRp.2
    cases r1 with
    | @lst p vs ds h1 r =>
      cases r2 with
      | @lst p' ws es h3 r' =>
        have m1 := m1 
        have l : vs.length = xs.length := by rw [r.len, List.length_map]
        have l' : ws.length = ys.length := by rw [r'.len, List.length_map]
        have h1' := sqr_mono x2.up h1
        have hz : (xs.zip ys).length = min vs.length ws.length := by rw [List.length_zip, l, l']
        have hl : (xs.zip ys).length ≤ sizeLine := by
          have := sqr_len hlen (sqr_mono f2 h1')
          omega
        refine ⟨p, p', vs, ws, rfl, sqr_l (sqr_mono f2 h1'), sqr_l (sqr_mono f2 h3), ?_⟩
        exact (show (∀ J H' F' G Y, Same H H' → Ext F H F' → Same F' H' → (xs.zip ys).length ≤ sizeLine → Walk J (xs.zip ys).length G Y → (∀ H2, Same H' H2 → G H2) → (b0 = true → ∀ H2, Same F' H2 → Same H0 H2 → G H2) → Yields X.K W F' ((xs.zip ys).map en) Y → RR J H') from m1) _ H2 F2 _ _ (s1.trans s2) (x1.trans s1 x2) f2 hl (walk_zip (K := X.K) (a := p) (b := p') (xs := vs) (ys := ws) hz) (fun H3 z => ⟨sqr_l (sqr_mono (f2.trans z) h1'), sqr_l (sqr_mono (f2.trans z) h3)⟩) (fun _ H3 z _ => ⟨sqr_l (sqr_mono z h1'), sqr_l (sqr_mono z h3)⟩) (zip_yields (r.up x2.up) r')⟩⟩
end
end
end Tx

set_option Elab.async false
set_option linter.all false
set_option maxRecDepth 100000
set_option maxHeartbeats 4000000
/-! A8: targets, comprehensions. -/
namespace Tx
open PySem L2 En EnL

abbrev GF := D → Env → Option Env
def gN (i : Nat) : GF := fun d ρ => some (se ρ i (.vl .fz d))
def gsN : List D → Env → Option Env
  | [], ρ => some ρ
  | _ :: _, _ => none
def gsC (g : GF) (r : List D → Env → Option Env) : List D → Env → Option Env
  | [], _ => none
  | d :: ds, ρ => match g d ρ with
    | some ρ' => r ds ρ'
    | none => none
def gT (n : Nat) (t : List D → Env → Option Env) : GF := fun d ρ => match d with
  | .tuple xs => bif Nat.beq xs.length n then t xs ρ else none
  | _ => none
/-- only slots of P have changed -/
def Diff (P : Nat → Bool) (σ σ' : L2.St) : Prop := σ'.length = σ.length ∧ ∀ j, P j = false → σ'[j]? = σ[j]?
theorem Diff.refl (P : Nat → Bool) (σ : L2.St) : Diff P σ σ := ⟨rfl, fun _ _ => rfl⟩
theorem Diff.trans {P : Nat → Bool} {σ σ1 σ2 : L2.St} (a : Diff P σ σ1) (b : Diff P σ1 σ2) : Diff P σ σ2 := ⟨b.1.trans a.1, fun j h => (b.2 j h).trans (a.2 j h)⟩
theorem Diff.set {P : Nat → Bool} (σ : L2.St) {i : Nat} {v : Option V} (h : P i = true) : Diff P σ (σ.set i v) := ⟨by simp, fun j z => List.getElem?_set_ne fun e => by subst e; rw [h] at z; cases z⟩
def tG (K : PySem.W.Frag) (W : Vp) (L : Nat) (P : Nat → Bool) (g : GF) : L2.TG := fun v σ H Q => ∃ H0 F ρ d ρ', EnvS K W.rc H0 F H L σ ρ ∧ Rp K W.rc F v d ∧ g d ρ = some ρ' ∧ ∀ σ', EnvS K W.rc H0 F H L σ' ρ' → Diff P σ σ' → Q σ' H
def tGs (K : PySem.W.Frag) (W : Vp) (L : Nat) (P : Nat → Bool) (g : List D → Env → Option Env) : TGs := fun vs σ H Q => ∃ H0 F ρ ds ρ', EnvS K W.rc H0 F H L σ ρ ∧ RpA K W.rc F vs ds ∧ g ds ρ = some ρ' ∧ ∀ σ', EnvS K W.rc H0 F H L σ' ρ' → Diff P σ σ' → Q σ' H
abbrev VG (X : Cx) (W : Vp) (P : Nat → Bool) (tg : Expr) (g : GF) : Prop := PG X tg (tG X.K W X.N.length P g)
abbrev VGs (X : Cx) (W : Vp) (P : Nat → Bool) (tg : List Expr) (g : List D → Env → Option Env) : Prop := PGs X tg (tGs X.K W X.N.length P g)
section
variable {X : Cx} {W : Vp} {P : Nat → Bool} {tg : Expr} {tgs : List Expr} {pos : Pos}
theorem vg_name {i : Nat} (h : PG X tg (gName i)) (hi : Nat.blt i X.N.length = true := by rfl) (hp : P i = true := by rfl) : VG X W P tg (gN i) := h.wk fun v σ H Q ⟨H0, F, ρ, d, ρ', k, r, e, q⟩ => by
  cases e
  exact q _ (k.set (Nat.le_of_ble_eq_true hi) r) (Diff.set σ hp)
theorem vgs_nil : VGs X W P [] gsN := pgs_nil.wk fun vs σ H Q ⟨H0, F, ρ, ds, ρ', k, r, e, q⟩ => by
  cases r with
  | nil => cases e; exact ⟨rfl, q _ k (Diff.refl P σ)⟩
  | cons _ _ => cases e
theorem vgs_cons {g : GF} {gs : List D → Env → Option Env} (h1 : VG X W P tg g) (h2 : VGs X W P tgs gs) (hs : (assignEach (tg :: tgs) X.env).map (·.2) = assign tg X.env :: (assignEach tgs X.env).map (·.2) := by rfl) : VGs X W P (tg :: tgs) (gsC g gs) :=
  (pgs_cons h1 h2 hs).wk fun vs σ H Q ⟨H0, F, ρ, ds, ρ', k, r, e, q⟩ => by
    cases r with
    | nil => cases e
    | @cons v vs d ds r1 r2 =>
      have e : (match g d ρ with | some ρ' => gs ds ρ' | none => none) = some ρ' := e
      cases hg : g d ρ with
      | none => rw [hg] at e; cases e
      | some ρ1 =>
        rw [hg] at e
        exact ⟨v, vs, rfl, H0, F, ρ, d, ρ1, k, r1, hg, fun σ1 k1 d1 => ⟨H0, F, ρ1, ds, ρ', k1, r2, e, fun σ2 k2 d2 => q σ2 k2 (d1.trans d2)⟩⟩
theorem vg_tup {n k : Nat} {gs : List D → Env → Option Env} (hc : X.calm = true) (h : VGs X W P tgs gs) (hn : (assignEach tgs X.env).length = n := by rfl) (hst : (assignEach tgs X.env).findIdx? (·.1) = none := by rfl) : VG X W P (.Tuple tgs k pos) (gT n gs) :=
  (pg_tup hc h hn hst).wk fun v σ H Q ⟨H0, F, ρ, d, ρ', kk, r, e, q⟩ => by
    cases r with
    | @tup a xs ds h1 h2 =>
      have e : (bif Nat.beq ds.length n then gs ds ρ else none) = some ρ' := e
      cases z : Nat.beq ds.length n with
      | true =>
        rw [z] at e
        exact ⟨a, xs, rfl, sqt_mono kk.sub h1, by rw [h2.len]; exact Nat.eq_of_beq_eq_true z, H0, F, ρ, ds, ρ', kk, h2, e, q⟩
      | false => rw [z] at e; cases e
    | _ => cases e
end

/-! ### comprehensions -/
abbrev EN : L2.St → XK := fun _ _ _ _ => False
def wE (ρ : Env) : List Nat → Env
  | [] => ρ
  | v :: vs => se (wE ρ vs) v .un
/-- an exception within a comprehension is not served -/
def noX {α : Type} : R α → R α
  | .ok a => .ok a
  | _ => .no
@[simp] theorem noX_ok {α : Type} (a : α) : noX (.ok a) = .ok a := rfl
section
variable {K : PySem.W.Frag} {C : Rc} {H0 F H : Hp} {L : Nat} {σ : L2.St} {ρ : Env}
theorem EnvS.forget (k : EnvS K C H0 F H L σ ρ) (i : Nat) : EnvS K C H0 F H L (σ.set i none) (se ρ i .un) := by
  obtain ⟨fp, o1, o2⟩ := k.sl
  refine ⟨k.same, k.sub, by rw [List.length_set]; exact k.len, fp, fun j m d e => ?_, fun a b s r d t q e n h1 h2 => ?_⟩
  · have ne : j ≠ i := fun z => by subst z; rw [se_same] at e; cases e
    rw [se_ne _ _ ne] at e
    rw [List.getElem?_set_ne (Ne.symm ne)]
    exact o1 j m d e
  · have na : a ≠ i := fun z => by subst z; rw [se_same] at h1; cases h1
    have nb : b ≠ i := fun z => by subst z; rw [se_same] at h2; cases h2
    rw [se_ne _ _ na] at h1
    rw [se_ne _ _ nb] at h2
    exact o2 a b s r d t q e n h1 h2
theorem EnvS.wipe (k : EnvS K C H0 F H L σ ρ) : ∀ vs : List Nat, EnvS K C H0 F H L (wipe σ vs) (wE ρ vs)
  | [] => k
  | v :: vs => (EnvS.wipe k vs).forget v
theorem wipe_get : ∀ (vs : List Nat) (σ : L2.St) (j : Nat), (L2.wipe σ vs)[j]? = if j ∈ vs then (σ[j]?).map (fun _ => none) else σ[j]?
  | [], σ, j => by simp [L2.wipe]
  | v :: vs, σ, j => by
    unfold L2.wipe
    have ih := wipe_get vs σ j
    by_cases h : j = v
    · subst h
      rw [List.getElem?_set]
      simp only [if_true, List.mem_cons, true_or, if_true, L2.wipe_length]
      by_cases hl : j < σ.length
      · rw [if_pos hl, List.getElem?_eq_getElem hl]; rfl
      · rw [if_neg hl, List.getElem?_eq_none (by omega)]; rfl
    · rw [List.getElem?_set_ne (Ne.symm h), ih]
      simp only [List.mem_cons, h, false_or]
theorem Diff.wipe {vs : List Nat} {σ σ2 : L2.St} (d : Diff (fun i => vs.contains i) (L2.wipe σ vs) σ2) : L2.wipe σ2 vs = L2.wipe σ vs := by
  obtain ⟨l, h⟩ := d
  rw [L2.wipe_length] at l
  apply List.ext_getElem?
  intro j
  rw [wipe_get, wipe_get]
  by_cases hj : j ∈ vs
  · rw [if_pos hj, if_pos hj]
    by_cases hl : j < σ.length
    · rw [List.getElem?_eq_getElem hl, List.getElem?_eq_getElem (by omega : j < σ2.length)]; rfl
    · rw [List.getElem?_eq_none (by omega), List.getElem?_eq_none (by omega)]
  · rw [if_neg hj, if_neg hj, h j (by simpa using hj), wipe_get, if_neg hj]
end
theorem hd_noX {α : Type} {E : XK} {W : Vp} {H H' : Hp} {r : R α} {k : α → Prop} (h : Hd E W H (noX r) k) : Hd (fun _ _ _ => False) W H' r k := by
  cases r with
  | ok a => exact h
  | ex c => exact False.elim h
  | no => exact h
theorem lc_read {K : PySem.W.Frag} {W : Vp} {E : L2.St → XK} {L : Nat} {ρ : Env} {s : Sh} {α β : Type} [En α] [En β] {m : R (List α)} {g : GF} {ρx : α → Env} {t : α → R Bool} {f : α → R β} {vs : List Nat} (hg : ∀ x, g (en x) (wE ρ vs) = some (ρx x)) (σ : L2.St) (H : Hp) (Q : VK)
    (h : tE K W E L ρ (.lst s) (m.bind fun xs => noX (fmapR t f xs)) σ H Q) :
    tLc (tI K W E L ρ false m) (tG K W L (fun i => vs.contains i) g) (fun σ H Q => ∃ x, tT K W EN L (ρx x) (t x) σ H Q) (fun σ H Q => ∃ x, tE K W EN L (ρx x) s (f x) σ H Q) vs σ H Q := by
  obtain ⟨H0, F, k, q⟩ := h
  refine ⟨H0, F, k, (hd_bind q).imp fun xs m1 J H1 F1 G Y s1 x1 f1 hlen wk hG _ hY => ?_⟩
  have m2 := hd_noX (H' := H) m1
  intro A hA
  have k1 := (k.grow s1 x1 f1).wipe vs
  have lx : (xs.map en).length = xs.length := List.length_map ..
  refine lc_it (g := tG K W L (fun i => vs.contains i) g) (tt := fun σ H Q => ∃ x, tT K W EN L (ρx x) (t x) σ H Q) (te := fun σ H Q => ∃ x, tE K W EN L (ρx x) s (f x) σ H Q) wk (fun i H2 => ∃ F2 vs2 ds2 fp2, Ext F1 H1 F2 ∧ Same F2 H2 ∧ Same H1 H2 ∧ F2 A = none ∧ H2 A = some (.lst vs2) ∧ OwA K W.rc F2 H2 s vs2 ds2 fp2 ∧ (∀ a ∈ fp2, H1 a = none ∧ F2 a = none ∧ a ≠ A) ∧ ds2.length ≤ i ∧
    Hd (fun _ _ _ => False) W H (fmapR t f (xs.drop i)) fun rest => Post K W F H (.lst s) Q (.list (ds2 ++ rest.map en))) ?_ ?_ ?_ ?_
  · exact ⟨F1, [], [], [], Ext.refl F1 H1, f1.trans (same_upd hA), same_upd hA, none_back f1 hA, upd_same, .nil, fun a ha => (nomatch ha), Nat.le_refl _, m2.imp fun xs q => q⟩
  · rintro i H2 hi ⟨F2, vs2, ds2, fp2, e1, e2, e3, _⟩
    exact hG H2 e3
  · rintro i v Ha Hb hi ⟨F2, vs2, ds2, fp2, e1, e2, e3, e4, e5, e6, e6n, e7, e8⟩ hy
    obtain ⟨d, F3, q1, q2, q3, q4, q5⟩ := hY i Ha v Hb F2 (by rw [lx]; exact hi) hy e1.up e2
    obtain ⟨x, hx, hd⟩ : ∃ x, xs[i]? = some x ∧ d = en x := by
      rw [List.getElem?_map] at q1
      cases z : xs[i]? with
      | none => rw [z] at q1; cases q1
      | some x => rw [z] at q1; cases q1; exact ⟨x, rfl, rfl⟩
    subst hd
    have dd : xs.drop i = x :: xs.drop (i + 1) := by
      obtain ⟨hlt, rfl⟩ := List.getElem?_eq_some_iff.mp hx
      exact List.drop_eq_getElem_cons hlt
    rw [dd] at e8
    have e9 := hd_bind (show Hd (fun _ _ _ => False) W H ((t x).bind fun c => match c with
      | true => (f x).bind fun y => (fmapR t f (xs.drop (i + 1))).bind fun ys => .ok (y :: ys)
      | false => fmapR t f (xs.drop (i + 1))) _ from e8)
    have F13 : Same F1 F3 := e1.up.trans q3.up
    have H13 : Same H1 Hb := e3.trans q2
    have live2 : ∀ a ∈ fp2, Hb a = Ha a := fun a ha => by
      obtain ⟨o, e⟩ := e6.live a ha
      exact (q2 a o e).trans e.symm
    have e6' : OwA K W.rc F3 Hb s vs2 ds2 fp2 := e6.mono q3.up live2
    have n3 : ∀ a ∈ fp2, F3 a = none := fun a ha => by
      obtain ⟨o, e⟩ := e6.live a ha
      exact q3.out e (e6n a ha).2.1
    have x13 : Ext F1 H1 F3 := e1.trans e3 q3
    have kb : EnvS K W.rc H0 F3 Hb L (L2.wipe σ vs) (wE ρ vs) := k1.grow H13 x13 q4
    refine ⟨H0, F3, wE ρ vs, en x, ρx x, kb, q5, hg x, fun σ2 k2 df => ⟨df.wipe, ?_⟩⟩
    have A3 : F3 A = none := q3.out e5 e4
    refine ⟨x, H0, F3, k2, (e9.heap (s1.trans H13)).imp fun c e11 Hc sc => ?_⟩
    have live3 : ∀ a ∈ fp2, Hc a = Hb a := fun a ha => by
      obtain ⟨o, e⟩ := e6'.live a ha
      exact (sc a o e).trans e.symm
    cases c with
    | false =>
      show ∃ F2 vs2 ds2 fp2, _
      exact ⟨F3, vs2, ds2, fp2, x13, q4.trans sc, H13.trans sc, A3, sc _ _ (q2 _ _ e5), e6'.mono (Same.refl F3) live3, fun a ha => ⟨(e6n a ha).1, n3 a ha, (e6n a ha).2.2⟩, by omega, e11⟩
    | true =>
      show ∃ x, tE K W EN L (ρx x) s (f x) σ2 Hc _
      have e12 := hd_bind (show Hd (fun _ _ _ => False) W H ((f x).bind _) _ from e11)
      refine ⟨x, H0, F3, k2.heap sc, (e12.heap ((s1.trans H13).trans sc)).imp fun y e13 w Hd' F4 fq sd xd fd wd nd => ?_⟩
      have A4 : F4 A = none := xd.out (sc _ _ (q2 _ _ e5)) A3
      have e14 := hd_bind e13
      have hAd : Hd' A = some (.lst vs2) := sd _ _ (sc _ _ (q2 _ _ e5))
      have live4 : ∀ a ∈ fp2, Hd' a = Hc a := fun a ha => by
        obtain ⟨o, e⟩ := (e6'.mono (Same.refl F3) live3).live a ha
        exact (sd a o e).trans e.symm
      have e6d : OwA K W.rc F4 Hd' s vs2 ds2 fp2 := (e6'.mono (Same.refl F3) live3).mono xd.up live4
      have n4 : ∀ a ∈ fp2, F4 a = none := fun a ha => by
        obtain ⟨o, e⟩ := (e6'.mono (Same.refl F3) live3).live a ha
        exact xd.out e (n3 a ha)
      have qA : ∀ a ∈ fq, a ≠ A := fun a ha z => by
        subst z
        have := (nd _ ha).1
        rw [sc _ _ (q2 _ _ e5)] at this
        cases this
      have l2 := e6d.len
      obtain ⟨fr, r1, r2⟩ := OwA.snoc wd e6d fun a ha hb => by
        obtain ⟨o, e⟩ := (e6'.mono (Same.refl F3) live3).live a ha
        rw [(nd a hb).1] at e; cases e
      have rA : ∀ a ∈ fr, a ≠ A := fun a ha => by
        rcases (r1 a).mp ha with h | h
        · exact (e6n a h).2.2
        · exact qA a h
      refine ⟨vs2, hAd, by omega, F4, vs2 ++ [w], ds2 ++ [en y], fr, x13.trans (H13.trans sc) xd, fun a u q => ?_, fun a u q => ?_, A4, upd_same, r2.mono (Same.refl F4) fun a ha => upd_ne (rA a ha), fun a ha => ?_, by simp; omega, e14.imp fun rest k => ?_⟩
      · rw [upd_ne (fun z => by rw [z, A4] at q; cases q)]
        exact fd a u q
      · rw [upd_ne (ne_of_none q hA)]
        exact sd a u (sc a u (H13 a u q))
      · rcases (r1 a).mp ha with h | h
        · exact ⟨(e6n a h).1, n4 a h, rA a ha⟩
        · exact ⟨none_back (H13.trans sc) (nd a h).1, (nd a h).2, rA a ha⟩
      · rw [List.append_assoc]; exact k
  · rintro H2 ⟨F2, vs2, ds2, fp2, e1, e2, e3, e4, e5, e6, e6n, e7, e8⟩
    rw [List.drop_length] at e8
    have k : Post K W F H (.lst s) Q (.list (ds2 ++ [])) := e8
    rw [List.append_nil] at k
    refine k (.ref A) H2 F2 (A :: fp2) (s1.trans e3) (x1.trans s1 e1) e2 (.lst e5 e6 fun h => (e6n A h).2.2 rfl) fun a ha => ?_
    rcases List.mem_cons.mp ha with rfl | ha
    · exact ⟨none_back s1 hA, e4⟩
    · exact ⟨none_back s1 (e6n a ha).1, (e6n a ha).2.1⟩
section
variable {X : Cx} {W : Vp} {E : L2.St → XK} {ρ : Env} {s : Sh} {α β : Type} [En α] [En β] {elt tg iter : Expr} {ifs : List Expr} {scope : Scope} {own : List (Str × Nat)} {pos : Pos} {m : R (List α)} {g : GF} {ρx : α → Env} {t : α → R Bool} {f : α → R β}
theorem pe_any {X : Cx} {e : Expr} {α : Type} {t : α → TE} (h : ∀ x, PE X e (t x)) : PE X e (fun σ H Q => ∃ x, t x σ H Q) := ⟨fun pins s σ H Q I ⟨x, q⟩ => (h x).run pins s σ H Q I q⟩
theorem pts_any {X : Cx} {e : List Expr} {α : Type} {t : α → TT} (h : ∀ x, PTs X e (t x)) : PTs X e (fun σ H Q => ∃ x, t x σ H Q) := ⟨fun pins s σ H Q I ⟨x, q⟩ => (h x).run pins s σ H Q I q⟩
abbrev VTs (X : Cx) (W : Vp) (ρ : Env) (ifs : List Expr) (t : R Bool) : Prop := PTs X ifs (tT X.K W EN X.N.length ρ t)
theorem vts_nil {X : Cx} : VTs X W ρ [] (.ok true) := pts_nil.wk fun σ H Q ⟨H0, F, k, m⟩ => okH m H (Same.refl H)
theorem vts_one {X : Cx} {c : Expr} {t : R Bool} (h : VT X W EN ρ c t) : VTs X W ρ [c] t := pts_one h
theorem vn_lc (hc : X.calm = true) (hN : X.N.Nodup) (hi : VI X W E ρ false tg iter m) (ok : BlkOk X.N X.env.scope scope own)
    (hg : ∀ (s : Shared) (H : Hp) (C : Addr) (cl : List (Str × Addr)) (fp : List Addr), VG (X.blk s H scope (compEnvC scope cl C X.env) fp) W (fun i => (own.map (·.2)).contains i) tg g)
    (hx : ∀ x, g (en x) (wE ρ (own.map (·.2))) = some (ρx x))
    (ht : ∀ (x : α) (s : Shared) (H : Hp) (C : Addr) (cl : List (Str × Addr)) (fp : List Addr), VTs (X.blk s H scope (compEnvC scope cl C X.env) fp) W (ρx x) ifs (t x))
    (he : ∀ (x : α) (sh : Shared) (H : Hp) (C : Addr) (cl : List (Str × Addr)) (fp : List Addr), VE (X.blk sh H scope (compEnvC scope cl C X.env) fp) W EN (ρx x) s elt (f x)) (hs : ∀ z, foldedSetIterable iter X.env z = pure z := by intro _; rfl) :
    VE X W E ρ (.lst s) (.ListComp elt [⟨tg, iter, ifs, 0⟩] scope pos) (m.bind fun xs => noX (fmapR t f xs)) :=
  (pe_lc hc hN hi ok hg (fun s H C cl fp => pts_any fun x => ht x s H C cl fp) (fun s H C cl fp => pe_any fun x => he x s H C cl fp) hs).wk (lc_read hx)
theorem fmapR_ok {p : α → Bool} {h : α → β} : ∀ xs : List α, fmapR (fun x => .ok (p x)) (fun x => .ok (h x)) xs = .ok ((xs.filter p).map h)
  | [] => rfl
  | x :: xs => by
    show (match p x with | true => _ | false => _) = _
    rw [fmapR_ok xs, List.filter_cons]
    cases p x <;> rfl
theorem fmapR_true {f : α → R β} : ∀ xs : List α, fmapR (fun _ => .ok true) f xs = mapR f xs
  | [] => rfl
  | x :: xs => by
    show (f x).bind _ = (f x).bind _
    rw [fmapR_true xs]
theorem mapR_ok {h : α → β} : ∀ xs : List α, mapR (fun x => .ok (h x)) xs = .ok (xs.map h)
  | [] => rfl
  | x :: xs => by
    show (mapR _ xs).bind _ = _
    rw [mapR_ok xs]; rfl
end
end Tx

set_option Elab.async false
set_option linter.all false
set_option maxRecDepth 100000
set_option maxHeartbeats 4000000
/-! A9: statements: control. -/
namespace Tx
open PySem L2 En EnL

/-- an exception out of a statement: nothing is told of the slots -/
def HdS {α : Type} (E : L2.St → XK) (W : Vp) (H : Hp) (r : R α) (k : α → Prop) : Prop :=
  match r with
  | .ok a => k a
  | .ex c => ∀ σ H', Same H H' → E σ (.ref (W.ea c)) none H'
  | .no => False
section
variable {α β : Type} {E : L2.St → XK} {W : Vp} {H H' : Hp} {r : R α} {k k' : α → Prop}
theorem hds_bind {f : α → R β} {k : β → Prop} (h : HdS E W H (r.bind f) k) : HdS E W H r fun a => HdS E W H (f a) k := by
  cases r with
  | ok a => exact h
  | ex c => exact h
  | no => exact h
theorem hds_map {f : α → β} {k : β → Prop} (h : HdS E W H (r.map f) k) : HdS E W H r fun a => k (f a) := by
  cases r with
  | ok a => exact h
  | ex c => exact h
  | no => exact h
theorem HdS.imp (h : HdS E W H r k) (i : ∀ a, k a → k' a) : HdS E W H r k' := by
  cases r with
  | ok a => exact i a h
  | ex c => exact h
  | no => exact h
theorem HdS.hd (σ : L2.St) (h : HdS E W H r k) (s : Same H H') : Hd (E σ) W H' r k := by
  cases r with
  | ok a => exact h
  | ex c => exact fun H2 z => h σ H2 (s.trans z)
  | no => exact h
/-- towards a larger base -/
theorem HdS.up (h : HdS E W H r k) (s : Same H H') : HdS E W H' r k := by
  cases r with
  | ok a => exact h
  | ex c => exact fun σ H2 z => h σ H2 (s.trans z)
  | no => exact h
end
/-- how a block ends -/
inductive Out where
  | nx (ρ : Env)
  | ct (ρ : Env)
  | nc (ρ : Env)
  | bk (ρ : Env)
  | rt (s : Sh) (d : D) (io : Option (V × Sh × D))
  | xx
def dn : Out → Out
  | .nx _ => .xx
  | .nc ρ => .ct ρ
  | o => o
def rtO : Out → Out
  | .rt s d io => .rt s d io
  | _ => .xx
def SPost (K : PySem.W.Frag) (W : Vp) (L : Nat) (H0 F0 : Hp) (De : Ends) : Out → Prop
  | .nx ρ' => ∀ σ' H' F', EnvS K W.rc H0 F' H' L σ' ρ' → Ext F0 H0 F' → De.nx σ' H'
  | .ct ρ' => ∀ σ' H' F', EnvS K W.rc H0 F' H' L σ' ρ' → Ext F0 H0 F' → De.ct σ' H'
  | .nc ρ' => ∀ σ' H' F', EnvS K W.rc H0 F' H' L σ' ρ' → Ext F0 H0 F' → De.nx σ' H' ∧ De.ct σ' H'
  | .bk ρ' => ∀ σ' H' F', EnvS K W.rc H0 F' H' L σ' ρ' → Ext F0 H0 F' → De.bk σ' H'
  | .rt s d none => ∀ v H' F' fp, Same H0 H' → Ext F0 H0 F' → Same F' H' → Ow K W.rc F' H' s v d fp → (∀ a ∈ fp, H0 a = none ∧ F' a = none) → De.rt v H'
  | .rt s d (some (u, s2, d2)) => ∀ v H' F' fp fq, Same H0 H' → Ext F0 H0 F' → Same F' H' → Ow K W.rc F' H' s v d fp → Ow K W.rc F' H' s2 u d2 fq → (∀ a ∈ fp, H0 a = none ∧ F' a = none) → (∀ a ∈ fq, H0 a = none ∧ F' a = none) → (∀ a ∈ fp, a ∉ fq) → De.rt v H'
  | .xx => True
def tB {β : Type} (K : PySem.W.Frag) (W : Vp) (E : L2.St → XK) (L : Nat) (ρ : Env) (m : R β) (out : β → Out) : TS := fun De σ H => ∃ H0 F0 F, EnvS K W.rc H0 F H L σ ρ ∧ Ext F0 H0 F ∧ HdS E W H0 m fun b => SPost K W L H0 F0 De (out b)
abbrev VB {β : Type} (X : Cx) (W : Vp) (E : L2.St → XK) (ρ : Env) (sts : List Stmt) (m : R β) (out : β → Out) : Prop := PSs X sts (tB X.K W E X.N.length ρ m out)
theorem pss_any {X : Cx} {sts : List Stmt} {α : Type} {t : α → TS} (h : ∀ x, PSs X sts (t x)) : PSs X sts (fun D σ H => ∃ x, t x D σ H) := ⟨fun pins s σ H D I ⟨x, q⟩ => (h x).run pins s σ H D I q⟩
theorem pt_any {X : Cx} {e : Expr} {α : Type} {t : α → TT} (h : ∀ x, PT X e (t x)) : PT X e (fun σ H Q => ∃ x, t x σ H Q) := ⟨fun pins s σ H Q I ⟨x, q⟩ => (h x).run pins s σ H Q I q⟩
section
variable {K : PySem.W.Frag} {W : Vp} {L : Nat} {H0 F0 F1 : Hp} {De De' : Ends}
theorem Ext.two {F0 H0 F F' : Hp} (a : Ext F0 H0 F) (b : Ext F H0 F') : Ext F0 H0 F' := a.trans (Same.refl H0) b
/-- the frozen part that is told may be the later one -/
theorem SPost.base (x : Ext F0 H0 F1) : ∀ {o : Out}, SPost K W L H0 F0 De o → SPost K W L H0 F1 De o
  | .nx _, h => fun σ' H' F' k x' => h σ' H' F' k (x.two x')
  | .ct _, h => fun σ' H' F' k x' => h σ' H' F' k (x.two x')
  | .nc _, h => fun σ' H' F' k x' => h σ' H' F' k (x.two x')
  | .bk _, h => fun σ' H' F' k x' => h σ' H' F' k (x.two x')
  | .rt _ _ none, h => fun v H' F' fp a b c d e => h v H' F' fp a (x.two b) c d e
  | .rt _ _ (some _), h => fun v H' F' fp fq a b c d e f g i => h v H' F' fp fq a (x.two b) c d e f g i
  | .xx, _ => trivial
theorem SPost.dn {N : L2.St → Hp → Prop} : ∀ {o : Out}, SPost K W L H0 F0 De o → SPost K W L H0 F0 { De with nx := N } (dn o)
  | .nx _, _ => trivial
  | .ct _, h => h
  | .nc _, h => fun σ' H' F' k x' => (h σ' H' F' k x').2
  | .bk _, h => h
  | .rt _ _ none, h => h
  | .rt _ _ (some _), h => h
  | .xx, _ => trivial
theorem SPost.rtO {N B T : L2.St → Hp → Prop} : ∀ {o : Out}, SPost K W L H0 F0 De o → SPost K W L H0 F0 { De with nx := N, bk := B, ct := T } (rtO o)
  | .nx _, _ => trivial
  | .ct _, _ => trivial
  | .nc _, _ => trivial
  | .bk _, _ => trivial
  | .rt _ _ none, h => h
  | .rt _ _ (some _), h => h
  | .xx, _ => trivial
end
section
variable {X : Cx} {W : Vp} {E : L2.St → XK} {ρ ρ' : Env} {st : Stmt} {rest : List Stmt} {e c : Expr} {pos : Pos} {i : Nat} {s : Sh}
variable {α β S : Type} [En α] {m : R α} {k : α → R β} {out : β → Out} {b : β} {t : R Bool}

theorem vb_eq {m m' : R β} (h : VB X W E ρ rest m out) (q : m = m') : VB X W E ρ rest m' out := q ▸ h
theorem vb_le {m : R β} (h : VB X W E ρ' rest m out) (l : Le ρ' ρ) : VB X W E ρ rest m out := h.wk fun De σ H ⟨H0, F0, F, k, x, q⟩ => ⟨H0, F0, F, k.le l, x, q⟩
theorem vb_frz {m : R β} {r : Option V} {d : D} (i : Nat) (hi : ρ i = .vl (.ow s r) d) (h : VB X W E (se ρ i (.vl .fz d)) rest m out) : VB X W E ρ rest m out := h.wk fun De σ H ⟨H0, F0, F, k, x, q⟩ => by
  obtain ⟨F', _, x', k'⟩ := k.frz hi
  exact ⟨H0, F0, F', k', x.two x', q⟩
theorem vb_nil (h : out b = .nx ρ') (l : Le ρ' ρ) : VB X W E ρ [] (.ok b) out := pss_nil.wk fun De σ H ⟨H0, F0, F, k, x, q⟩ => by
  have q : SPost X.K W X.N.length H0 F0 De (out b) := q
  rw [h] at q
  exact q σ H F (k.le l) x
theorem vb_nilC (h : out b = .nc ρ') (l : Le ρ' ρ) : VB X W E ρ [] (.ok b) out := pss_nil.wk fun De σ H ⟨H0, F0, F, k, x, q⟩ => by
  have q : SPost X.K W X.N.length H0 F0 De (out b) := q
  rw [h] at q
  exact (q σ H F (k.le l) x).1
theorem vb_cnt (h : out b = .ct ρ') (l : Le ρ' ρ) : VB X W E ρ [.Continue pos] (.ok b) out := (pss_one ps_continue).wk fun De σ H ⟨H0, F0, F, k, x, q⟩ => by
  have q : SPost X.K W X.N.length H0 F0 De (out b) := q
  rw [h] at q
  exact q σ H F (k.le l) x
theorem vb_cntC (h : out b = .nc ρ') (l : Le ρ' ρ) : VB X W E ρ [.Continue pos] (.ok b) out := (pss_one ps_continue).wk fun De σ H ⟨H0, F0, F, k, x, q⟩ => by
  have q : SPost X.K W X.N.length H0 F0 De (out b) := q
  rw [h] at q
  exact (q σ H F (k.le l) x).2
theorem vb_brk (h : out b = .bk ρ') (l : Le ρ' ρ) : VB X W E ρ [.Break pos] (.ok b) out := (pss_one ps_break).wk fun De σ H ⟨H0, F0, F, k, x, q⟩ => by
  have q : SPost X.K W X.N.length H0 F0 De (out b) := q
  rw [h] at q
  exact q σ H F (k.le l) x
theorem vb_pass {m : R β} (h : VB X W E ρ rest m out) : VB X W E ρ (.Pass pos :: rest) m out := (pss_cons ps_pass h).wk fun De σ H q => q
theorem vb_passL {m : R β} (h : VB X W E ρ [] m out) : VB X W E ρ [.Pass pos] m out := vb_pass h

/-! ### names -/
theorem vb_set (h : PS X st (tAsg (tE X.K W E X.N.length ρ .frz m) (gName i))) (hr : ∀ a, VB X W E (se ρ i (.vl .fz (en a))) rest (k a) out) (hi : Nat.blt i X.N.length = true := by rfl) : VB X W E ρ (st :: rest) (m.bind k) out :=
  (pss_cons h (pss_any hr)).wk fun De σ H ⟨H0, F0, F, kk, x, q⟩ => ⟨H0, F, kk, ((hds_bind q).hd σ kk.same).imp fun a q v H1 F1 fp s1 x1 f1 w _ => ⟨a, H0, F0, F1, (kk.grow s1 x1 f1).set (Nat.le_of_ble_eq_true hi) w.toRp.2, x.trans kk.same x1, q⟩⟩
theorem vb_setN (h : PS X st (tAsg (tE X.K W E X.N.length ρ s m) (gName i))) (hr : ∀ a, VB X W E (se ρ i (.vl (.ow s none) (en a))) rest (k a) out) (hi : Nat.blt i X.N.length = true := by rfl) : VB X W E ρ (st :: rest) (m.bind k) out :=
  (pss_cons h (pss_any hr)).wk fun De σ H ⟨H0, F0, F, kk, x, q⟩ => ⟨H0, F, kk, ((hds_bind q).hd σ kk.same).imp fun a q v H1 F1 fp s1 x1 f1 w n => ⟨a, H0, F0, F1, kk.setN (Nat.le_of_ble_eq_true hi) s1 x1 f1 w n, x.trans kk.same x1, q⟩⟩
theorem vb_asg {P : Nat → Bool} {g : GF} {ρx : α → Env} (h : PS X st (tAsg (tE X.K W E X.N.length ρ .frz m) (tG X.K W X.N.length P g))) (hr : ∀ a, VB X W E (ρx a) rest (k a) out) (hg : ∀ a, g (en a) ρ = some (ρx a) := by intro _; rfl) : VB X W E ρ (st :: rest) (m.bind k) out :=
  (pss_cons h (pss_any hr)).wk fun De σ H ⟨H0, F0, F, kk, x, q⟩ => ⟨H0, F, kk, ((hds_bind q).hd σ kk.same).imp fun a q v H1 F1 fp s1 x1 f1 w n => ⟨H0, F1, ρ, en a, ρx a, kk.grow s1 x1 f1, w.toRp.2, hg a, fun σ' k' _ => ⟨a, H0, F0, F1, k', x.trans kk.same x1, q⟩⟩⟩
theorem vb_do {k : R β} (h : PS X st (tDrop (tE X.K W E X.N.length ρ s m))) (hr : VB X W E ρ rest k out) : VB X W E ρ (st :: rest) (m.bind fun _ => k) out :=
  (pss_cons h hr).wk fun De σ H ⟨H0, F0, F, kk, x, q⟩ => ⟨H0, F, kk, ((hds_bind q).hd σ kk.same).imp fun a q v H1 F1 fp s1 x1 f1 w n => ⟨H0, F0, F1, kk.grow s1 x1 f1, x.trans kk.same x1, q⟩⟩
/-- name op= e of ints -/
theorem vb_aug {f : Int → Int → Int} {m : R Int} {k : Int → R β} {a : Int} (h : PS X st (tAug i (tE X.K W E X.N.length ρ .frz m) (ipI f))) (ha : ρ i = .vl .fz (en a)) (hr : ∀ z, VB X W E (se ρ i (.vl .fz (en z))) rest (k z) out) (hi : Nat.blt i X.N.length = true := by rfl) : VB X W E ρ (st :: rest) (m.bind fun y => k (f a y)) out :=
  (pss_cons h (pss_any hr)).wk fun De σ H ⟨H0, F0, F, kk, x, q⟩ => by
    obtain ⟨fp, o1, _⟩ := kk.sl
    obtain ⟨v, h1, _, h2⟩ := o1 i _ _ ha
    refine ⟨v, h1, H0, F, kk, ((hds_bind q).hd σ kk.same).imp fun y q u H1 F1 fp s1 x1 f1 w _ => ⟨a, y, int_rp h2, int_rp w.toRp.2, f a y, H0, F0, F1, (kk.grow s1 x1 f1).set (Nat.le_of_ble_eq_true hi) (.int _), x.trans kk.same x1, q⟩⟩

/-! ### return, raise -/
theorem vb_ret {inj : α → β} (h : PS X st (tRet (tE X.K W E X.N.length ρ s m))) (ho : ∀ a, out (inj a) = .rt s (en a) none := by intro _; rfl) : VB X W E ρ [st] (m.map inj) out := (pss_one h).wk fun De σ H ⟨H0, F0, F, kk, x, q⟩ =>
  ⟨H0, F, kk, ((hds_map q).hd σ kk.same).imp fun a q v H1 F1 fp s1 x1 f1 w n => by
    rw [ho] at q
    exact q v H1 F1 fp (kk.same.trans s1) (x.trans kk.same x1) f1 w fun a ha => ⟨none_back kk.same (n a ha).1, (n a ha).2⟩⟩
/-- return of what a slot owns -/
theorem vb_retO {a : α} {r : Option V} (h : PS X st (tRet (tVar i))) (hi : ρ i = .vl (.ow s r) (en a)) (ho : out b = .rt s (en a) none) : VB X W E ρ [st] (.ok b) out := (pss_one h).wk fun De σ H ⟨H0, F0, F, kk, x, q⟩ => by
  have q : SPost X.K W X.N.length H0 F0 De (out b) := q
  rw [ho] at q
  obtain ⟨v, fp, o⟩ := kk.own hi
  exact ⟨v, o.at_, q v H F fp kk.same x kk.sub o.ow fun a ha => ⟨(o.fre a ha).2, (o.fre a ha).1⟩⟩
/-- return from a def that changes what it was handed -/
theorem vb_retI {δ : Type} [En δ] {inj : α → β} {u : V} {s2 : Sh} {z : δ} (j : Nat) (h : PS X st (tRet (tE X.K W E X.N.length ρ s m))) (hj : ρ j = .vl (.ow s2 (some u)) (en z)) (ho : ∀ a, out (inj a) = .rt s (en a) (some (u, s2, en z)) := by intro _; rfl) : VB X W E ρ [st] (m.map inj) out := (pss_one h).wk fun De σ H ⟨H0, F0, F, kk, x, q⟩ =>
  ⟨H0, F, kk, ((hds_map q).hd σ kk.same).imp fun a q v H1 F1 fp s1 x1 f1 w n => by
    rw [ho] at q
    obtain ⟨v2, fq, o⟩ := (kk.grow s1 x1 f1).own hj
    have e := o.rt u rfl
    subst e
    obtain ⟨v3, fq3, o3⟩ := kk.own hj
    have k1 := kk.grow s1 x1 f1
    have o3w := o3.ow.mono x1.up fun a ha => by
      obtain ⟨w', e⟩ := o3.ow.live a ha
      exact (s1 a w' e).trans e.symm
    have e3 : v3 = v2 := o3.rt v2 rfl
    subst e3
    refine q v H1 F1 fp fq3 (kk.same.trans s1) (x.trans kk.same x1) f1 w o3w (fun a ha => ⟨none_back kk.same (n a ha).1, (n a ha).2⟩) (fun a ha => ⟨(o3.fre a ha).2, ?_⟩) fun a ha hb => ?_
    · obtain ⟨w', e⟩ := o3.ow.live a ha
      exact x1.out e (o3.fre a ha).1
    · obtain ⟨w', e⟩ := o3.ow.live a hb
      rw [(n a ha).1] at e; cases e⟩
theorem vb_raise {n : Nat} (h : PS X st (fun _ σ H => E σ (.ref (W.ea n)) none H)) : VB X W E ρ [st] (.ex n) out := (pss_one h).wk fun De σ H ⟨H0, F0, F, kk, x, q⟩ => q σ H kk.same

/-! ### if -/
theorem vb_if {x y : List Stmt} {mx my : R β} (hc : VT X W E ρ c t) (ha : VB X W E ρ x mx out) (hb : VB X W E ρ y my out) : VB X W E ρ [.If c x y pos] (iteR t mx my) out := (pss_one (ps_if hc ha hb)).wk fun De σ H ⟨H0, F0, F, kk, x, q⟩ =>
  ⟨H0, F, kk, ((hds_bind q).hd σ kk.same).imp fun z q H1 s1 => by
    cases z with
    | true => exact ⟨H0, F0, F, kk.heap s1, x, q⟩
    | false => exact ⟨H0, F0, F, kk.heap s1, x, q⟩⟩
/-- the first branch does not go on -/
theorem vb_ifA {x : List Stmt} {mx my : R β} (hc : VT X W E ρ c t) (ha : VB X W E ρ x mx fun b => dn (out b)) (hr : VB X W E ρ rest my out) : VB X W E ρ (.If c x [] pos :: rest) (iteR t mx my) out := (pss_cons (ps_if hc ha pss_nil) hr).wk fun De σ H ⟨H0, F0, F, kk, x, q⟩ =>
  ⟨H0, F, kk, ((hds_bind q).hd σ kk.same).imp fun z q H1 s1 => by
    cases z with
    | true => exact ⟨H0, F0, F, kk.heap s1, x, HdS.imp (r := mx) q fun b p => p.dn⟩
    | false => exact ⟨H0, F0, F, kk.heap s1, x, q⟩⟩
/-- .. and the second goes on to a state -/
theorem vb_ifAE {x y : List Stmt} {mx : R β} {my : R S} {eJ : S → Env} {k : S → R β} (hc : VT X W E ρ c t) (ha : VB X W E ρ x mx fun b => dn (out b)) (hb : VB X W E ρ y my fun s => .nx (eJ s)) (hr : ∀ s, VB X W E (eJ s) rest (k s) out) : VB X W E ρ (.If c x y pos :: rest) (iteR t mx (my.bind k)) out := (pss_cons (ps_if hc ha hb) (pss_any hr)).wk fun De σ H ⟨H0, F0, F, kk, x, q⟩ =>
  ⟨H0, F, kk, ((hds_bind q).hd σ kk.same).imp fun z q H1 s1 => by
    cases z with
    | true => exact ⟨H0, F0, F, kk.heap s1, x, HdS.imp (r := mx) q fun b p => p.dn⟩
    | false => exact ⟨H0, F0, F, kk.heap s1, x, (hds_bind q).imp fun s p σ' H' F' k' x' => ⟨s, H0, F0, F', k', x', p⟩⟩⟩
/-- the second branch does not go on -/
theorem vb_ifB {x y : List Stmt} {mx : R S} {my : R β} {eJ : S → Env} {k : S → R β} (hc : VT X W E ρ c t) (ha : VB X W E ρ x mx fun s => .nx (eJ s)) (hb : VB X W E ρ y my fun b => dn (out b)) (hr : ∀ s, VB X W E (eJ s) rest (k s) out) : VB X W E ρ (.If c x y pos :: rest) (iteR t (mx.bind k) my) out := (pss_cons (ps_if hc ha hb) (pss_any hr)).wk fun De σ H ⟨H0, F0, F, kk, x, q⟩ =>
  ⟨H0, F, kk, ((hds_bind q).hd σ kk.same).imp fun z q H1 s1 => by
    cases z with
    | true => exact ⟨H0, F0, F, kk.heap s1, x, (hds_bind q).imp fun s p σ' H' F' k' x' => ⟨s, H0, F0, F', k', x', p⟩⟩
    | false => exact ⟨H0, F0, F, kk.heap s1, x, HdS.imp (r := my) q fun b p => p.dn⟩⟩
/-- both go on -/
theorem vb_ifJ {x y : List Stmt} {mx my : R S} {eJ : S → Env} {k : S → R β} (hc : VT X W E ρ c t) (ha : VB X W E ρ x mx fun s => .nx (eJ s)) (hb : VB X W E ρ y my fun s => .nx (eJ s)) (hr : ∀ s, VB X W E (eJ s) rest (k s) out) : VB X W E ρ (.If c x y pos :: rest) ((iteR t mx my).bind k) out := (pss_cons (ps_if hc ha hb) (pss_any hr)).wk fun De σ H ⟨H0, F0, F, kk, x, q⟩ =>
  ⟨H0, F, kk, ((hds_bind (hds_bind q)).hd σ kk.same).imp fun z q H1 s1 => by
    cases z with
    | true => exact ⟨H0, F0, F, kk.heap s1, x, HdS.imp (r := mx) q fun s p σ' H' F' k' x' => ⟨s, H0, F0, F', k', x', p⟩⟩
    | false => exact ⟨H0, F0, F, kk.heap s1, x, HdS.imp (r := my) q fun s p σ' H' F' k' x' => ⟨s, H0, F0, F', k', x', p⟩⟩⟩
/-- each may go on or not -/
def ifOut (eJ : S → Env) (out : β → Out) : Sum S β → Out
  | .inl s => .nx (eJ s)
  | .inr b => dn (out b)
theorem vb_ifS {x y : List Stmt} {mx my : R (Sum S β)} {eJ : S → Env} {k : S → R β} (hc : VT X W E ρ c t) (ha : VB X W E ρ x mx (ifOut eJ out)) (hb : VB X W E ρ y my (ifOut eJ out)) (hr : ∀ s, VB X W E (eJ s) rest (k s) out) : VB X W E ρ (.If c x y pos :: rest) (thenR (iteR t mx my) k) out := (pss_cons (ps_if hc ha hb) (pss_any hr)).wk fun De σ H ⟨H0, F0, F, kk, x, q⟩ => by
  have fin : ∀ z : Sum S β, HdS E W H0 (thenK k z) (fun b => SPost X.K W X.N.length H0 F0 De (out b)) → SPost X.K W X.N.length H0 F0 { De with nx := fun σ H => ∃ s, tB X.K W E X.N.length (eJ s) (k s) out De σ H } (ifOut eJ out z) := fun z p => by
    cases z with
    | inl s => exact fun σ' H' F' k' x' => ⟨s, H0, F0, F', k', x', p⟩
    | inr b => exact SPost.dn (show SPost X.K W X.N.length H0 F0 De (out b) from p)
  exact ⟨H0, F, kk, ((hds_bind (hds_bind q)).hd σ kk.same).imp fun z q H1 s1 => by
    cases z with
    | true => exact ⟨H0, F0, F, kk.heap s1, x, HdS.imp (r := mx) q fin⟩
    | false => exact ⟨H0, F0, F, kk.heap s1, x, HdS.imp (r := my) q fin⟩⟩
end
end Tx

set_option Elab.async false
set_option linter.all false
set_option maxRecDepth 100000
set_option maxHeartbeats 4000000
/-! A10: loops; a slot lent to a statement. -/
namespace Tx
open PySem L2 En EnL

def lcOut {S β : Type} (e : S → Env) (out : β → Out) : Lc S β → Out
  | .nx s => .nc (e s)
  | .bk s => .bk (e s)
  | .rt b => rtO (out b)
section
variable {X : Cx} {W : Vp} {E : L2.St → XK} {ρ : Env} {rest body : List Stmt} {tg iter c : Expr} {pos : Pos}
variable {α β S : Type} [En α] {mi : R (List α)} {k : S → R β} {out : β → Out} {e : S → Env} {s0 : S} {g : GF} {ρx : α → S → Env}
theorem vb_for {f : α → S → R S} (hp : PassesOwn (model X.prog X.w) X.A X.env X.xe) (hc : X.calm = true) (hi : VI X W E ρ true tg iter mi) (hg : VG X W (fun _ => true) tg g) (hl : Le (e s0) ρ)
    (hb : ∀ x s, VB X W E (ρx x s) body (f x s) fun s' => .nc (e s')) (hr : ∀ s, VB X W E (e s) rest (k s) out) (hx : ∀ x s, g (en x) (e s) = some (ρx x s) := by intro _ _; rfl) (hs : ∀ z, foldedSetIterable iter X.env z = pure z := by intro _; rfl) :
    VB X W E ρ (.For tg iter body [] pos :: rest) (mi.bind fun xs => (forR f xs s0).bind k) out :=
  (pss_cons (ps_for hp hc hi hg (pss_any fun p : α × S => hb p.1 p.2) hs) (pss_any hr)).wk fun De σ H ⟨H0, F0, F, kk, x, q⟩ => by
  refine ⟨H0, F, kk, ((hds_bind q).hd σ kk.same).imp fun xs q J H2 F2 G Y s2 x2 f2 _ wk _ hG hY => ?_⟩
  have k2 := kk.grow s2 x2 f2
  refine for_it (g := tG X.K W X.N.length (fun _ => true) g) (tb := fun D σ H => ∃ p : α × S, tB X.K W E X.N.length (ρx p.1 p.2) (f p.1 p.2) (fun s' => .nc (e s')) D σ H) (D := { De with nx := fun σ H => ∃ s, tB X.K W E X.N.length (e s) (k s) out De σ H }) wk (fun n σ' H' => ∃ F' s', EnvS X.K W.rc H0 F' H' X.N.length σ' (e s') ∧ Ext F2 H0 F' ∧ HdS E W H0 ((forR f (xs.drop n) s').bind k) fun b => SPost X.K W X.N.length H0 F0 De (out b)) ⟨F2, s0, k2.le hl, Ext.refl F2 H0, q⟩ ?_ ?_ ?_
  · rintro n σ' H' hn ⟨F', s', k', x', _⟩
    exact hG rfl H' (x'.up.trans k'.sub) k'.same
  · rintro n v σ' H3 H4 hn ⟨F', s', k', x', q'⟩ hy
    obtain ⟨d, F3, q1, q2, q3, q4, q5⟩ := hY n H3 v H4 F' (by rw [List.length_map]; exact hn) hy x'.up k'.sub
    obtain ⟨y, hy', hd⟩ : ∃ y, xs[n]? = some y ∧ d = en y := by
      rw [List.getElem?_map] at q1
      cases z : xs[n]? with
      | none => rw [z] at q1; cases q1
      | some y => rw [z] at q1; cases q1; exact ⟨y, rfl, rfl⟩
    subst hd
    have dd : xs.drop n = y :: xs.drop (n + 1) := by
      obtain ⟨hlt, rfl⟩ := List.getElem?_eq_some_iff.mp hy'
      exact List.drop_eq_getElem_cons hlt
    rw [dd] at q'
    have q' : HdS E W H0 (((f y s').bind fun s2 => forR f (xs.drop (n + 1)) s2).bind k) _ := q'
    rw [R.bind_assoc] at q'
    have x3 : Ext F2 H0 F3 := x'.trans k'.same q3
    refine ⟨H0, F3, e s', en y, ρx y s', k'.grow q2 q3 q4, q5, hx y s', fun σ1 k1 _ => ⟨(y, s'), H0, F2, F3, k1, x3, (hds_bind q').imp fun s2 q7 => ?_⟩⟩
    exact fun σ2 H5 F4 k4 x4 => ⟨⟨F4, s2, k4, x4, q7⟩, ⟨F4, s2, k4, x4, q7⟩⟩
  · rintro σ' H' ⟨F', s', k', x', q'⟩
    rw [List.drop_length] at q'
    exact ⟨s', H0, F0, F', k', (x.trans kk.same x2).two x', q'⟩
theorem vb_loop {f : α → S → R (Lc S β)} (hp : PassesOwn (model X.prog X.w) X.A X.env X.xe) (hc : X.calm = true) (hi : VI X W E ρ true tg iter mi) (hg : VG X W (fun _ => true) tg g) (hl : Le (e s0) ρ)
    (hb : ∀ x s, VB X W E (ρx x s) body (f x s) (lcOut e out)) (hr : ∀ s, VB X W E (e s) rest (k s) out) (hx : ∀ x s, g (en x) (e s) = some (ρx x s) := by intro _ _; rfl) (hs : ∀ z, foldedSetIterable iter X.env z = pure z := by intro _; rfl) :
    VB X W E ρ (.For tg iter body [] pos :: rest) (mi.bind fun xs => thenR (loopR f xs s0) k) out :=
  (pss_cons (ps_for hp hc hi hg (pss_any fun p : α × S => hb p.1 p.2) hs) (pss_any hr)).wk fun De σ H ⟨H0, F0, F, kk, x, q⟩ => by
  refine ⟨H0, F, kk, ((hds_bind q).hd σ kk.same).imp fun xs q J H2 F2 G Y s2 x2 f2 _ wk _ hG hY => ?_⟩
  have k2 := kk.grow s2 x2 f2
  have xx : Ext F0 H0 F2 := x.trans kk.same x2
  refine for_it (g := tG X.K W X.N.length (fun _ => true) g) (tb := fun D σ H => ∃ p : α × S, tB X.K W E X.N.length (ρx p.1 p.2) (f p.1 p.2) (lcOut e out) D σ H) (D := { De with nx := fun σ H => ∃ s, tB X.K W E X.N.length (e s) (k s) out De σ H }) wk (fun n σ' H' => ∃ F' s', EnvS X.K W.rc H0 F' H' X.N.length σ' (e s') ∧ Ext F2 H0 F' ∧ HdS E W H0 ((loopR f (xs.drop n) s').bind (thenK k)) fun b => SPost X.K W X.N.length H0 F0 De (out b)) ⟨F2, s0, k2.le hl, Ext.refl F2 H0, q⟩ ?_ ?_ ?_
  · rintro n σ' H' hn ⟨F', s', k', x', _⟩
    exact hG rfl H' (x'.up.trans k'.sub) k'.same
  · rintro n v σ' H3 H4 hn ⟨F', s', k', x', q'⟩ hy
    obtain ⟨d, F3, q1, q2, q3, q4, q5⟩ := hY n H3 v H4 F' (by rw [List.length_map]; exact hn) hy x'.up k'.sub
    obtain ⟨y, hy', hd⟩ : ∃ y, xs[n]? = some y ∧ d = en y := by
      rw [List.getElem?_map] at q1
      cases z : xs[n]? with
      | none => rw [z] at q1; cases q1
      | some y => rw [z] at q1; cases q1; exact ⟨y, rfl, rfl⟩
    subst hd
    have dd : xs.drop n = y :: xs.drop (n + 1) := by
      obtain ⟨hlt, rfl⟩ := List.getElem?_eq_some_iff.mp hy'
      exact List.drop_eq_getElem_cons hlt
    rw [dd] at q'
    have q' : HdS E W H0 (((f y s').bind (lcGo (loopR f (xs.drop (n + 1))))).bind (thenK k)) _ := q'
    rw [R.bind_assoc] at q'
    have x3 : Ext F2 H0 F3 := x'.trans k'.same q3
    refine ⟨H0, F3, e s', en y, ρx y s', k'.grow q2 q3 q4, q5, hx y s', fun σ1 k1 _ => ⟨(y, s'), H0, F2, F3, k1, x3, (hds_bind q').imp fun r q7 => ?_⟩⟩
    cases r with
    | nx s2 => exact fun σ2 H5 F4 k4 x4 => ⟨⟨F4, s2, k4, x4, q7⟩, ⟨F4, s2, k4, x4, q7⟩⟩
    | bk s2 => exact fun σ2 H5 F4 k4 x4 => ⟨s2, H0, F0, F4, k4, xx.two x4, q7⟩
    | rt b =>
      have q7 : SPost X.K W X.N.length H0 F0 De (out b) := q7
      show SPost X.K W X.N.length H0 F2 _ (rtO (out b))
      exact SPost.rtO (De := De) (q7.base xx)
  · rintro σ' H' ⟨F', s', k', x', q'⟩
    rw [List.drop_length] at q'
    exact ⟨s', H0, F0, F', k', xx.two x', q'⟩
omit [En α] in
theorem vb_while {t : S → R Bool} {f : S → R S} (hp : PassesOwn (model X.prog X.w) X.A X.env X.xe) (hl : Le (e s0) ρ) (hc : ∀ s, VT X W E (e s) c (t s))
    (hb : ∀ s, VB X W E (e s) body (f s) fun s' => .nc (e s')) (hr : ∀ s, VB X W E (e s) rest (k s) out) : VB X W E ρ (.While c body [] pos :: rest) ((whileR t f s0).bind k) out :=
  (pss_cons (ps_while hp (pt_any hc) (pss_any hb)) (pss_any hr)).wk fun De σ H ⟨H0, F0, F, kk, x, q⟩ => by
  obtain ⟨n, hn⟩ := whileR_some t f s0
  rw [hn] at q
  refine ⟨fun j σ' H' => ∃ F' s', EnvS X.K W.rc H0 F' H' X.N.length σ' (e s') ∧ Ext F0 H0 F' ∧ HdS E W H0 ((whileN t f j s').bind k) fun b => SPost X.K W X.N.length H0 F0 De (out b), ⟨n, F, s0, kk.le hl, x, q⟩, ?_⟩
  rintro j σ' H' ⟨F', s', k', x', q'⟩
  cases j with
  | zero => exact False.elim q'
  | succ j =>
    unfold whileN at q'
    rw [R.bind_assoc] at q'
    refine ⟨s', H0, F', k', ((hds_bind q').hd σ' k'.same).imp fun d q H2 s2 => ?_⟩
    cases d with
    | false => exact ⟨s', H0, F0, F', k'.heap s2, x', q⟩
    | true =>
      have q : HdS E W H0 (((f s').bind fun s2 => whileN t f j s2).bind k) _ := q
      rw [R.bind_assoc] at q
      refine ⟨fun σ2 H3 => ∃ F2 s2, EnvS X.K W.rc H0 F2 H3 X.N.length σ2 (e s2) ∧ Ext F0 H0 F2 ∧ HdS E W H0 ((whileN t f j s2).bind k) fun b => SPost X.K W X.N.length H0 F0 De (out b), fun σ2 H3 z => ⟨j, Nat.lt_succ_self j, z⟩, s', H0, F0, F', k'.heap s2, x', (hds_bind q).imp fun s3 q7 => ?_⟩
      exact fun σ2 H5 F4 k4 x4 => ⟨⟨F4, s3, k4, x4, q7⟩, ⟨F4, s3, k4, x4, q7⟩⟩
omit [En α] in
theorem vb_wloop {t : S → R Bool} {f : S → R (Lc S β)} (hp : PassesOwn (model X.prog X.w) X.A X.env X.xe) (hl : Le (e s0) ρ) (hc : ∀ s, VT X W E (e s) c (t s))
    (hb : ∀ s, VB X W E (e s) body (f s) (lcOut e out)) (hr : ∀ s, VB X W E (e s) rest (k s) out) : VB X W E ρ (.While c body [] pos :: rest) (thenR (wloopR t f s0) k) out :=
  (pss_cons (ps_while hp (pt_any hc) (pss_any hb)) (pss_any hr)).wk fun De σ H ⟨H0, F0, F, kk, x, q⟩ => by
  obtain ⟨n, hn⟩ := wloopR_some t f s0
  have q : HdS E W H0 ((wloopR t f s0).bind (thenK k)) _ := q
  rw [hn] at q
  refine ⟨fun j σ' H' => ∃ F' s', EnvS X.K W.rc H0 F' H' X.N.length σ' (e s') ∧ Ext F0 H0 F' ∧ HdS E W H0 ((wloopN t f j s').bind (thenK k)) fun b => SPost X.K W X.N.length H0 F0 De (out b), ⟨n, F, s0, kk.le hl, x, q⟩, ?_⟩
  rintro j σ' H' ⟨F', s', k', x', q'⟩
  cases j with
  | zero => exact False.elim q'
  | succ j =>
    unfold wloopN at q'
    rw [R.bind_assoc] at q'
    refine ⟨s', H0, F', k', ((hds_bind q').hd σ' k'.same).imp fun d q H2 s2 => ?_⟩
    cases d with
    | false => exact ⟨s', H0, F0, F', k'.heap s2, x', q⟩
    | true =>
      have q : HdS E W H0 (((f s').bind (lcGo (wloopN t f j))).bind (thenK k)) _ := q
      rw [R.bind_assoc] at q
      refine ⟨fun σ2 H3 => ∃ F2 s2, EnvS X.K W.rc H0 F2 H3 X.N.length σ2 (e s2) ∧ Ext F0 H0 F2 ∧ HdS E W H0 ((wloopN t f j s2).bind (thenK k)) fun b => SPost X.K W X.N.length H0 F0 De (out b), fun σ2 H3 z => ⟨j, Nat.lt_succ_self j, z⟩, s', H0, F0, F', k'.heap s2, x', (hds_bind q).imp fun r q7 => ?_⟩
      cases r with
      | nx s3 => exact fun σ2 H5 F4 k4 x4 => ⟨⟨F4, s3, k4, x4, q7⟩, ⟨F4, s3, k4, x4, q7⟩⟩
      | bk s3 => exact fun σ2 H5 F4 k4 x4 => ⟨s3, H0, F0, F4, k4, x4, q7⟩
      | rt b =>
        have q7 : SPost X.K W X.N.length H0 F0 De (out b) := q7
        show SPost X.K W X.N.length H0 F0 _ (rtO (out b))
        exact SPost.rtO (De := De) q7
theorem pi_any {X : Cx} {tg e : Expr} {α : Type} {t : α → TI} (h : ∀ x, PI X tg e (t x)) : PI X tg e (fun σ H R => ∃ x, t x σ H R) := ⟨fun pins s σ H R I ⟨x, q⟩ => (h x).run pins s σ H R I q⟩
/-- a for while which the slot i is lent -/
theorem vb_forL {f : α → S → R S} {ei : V → S → Env} {ρy : V → α → S → Env} {ρ2 : S → Env} {s : Sh} {r : Option V} {d : D} (i : Nat) (hi : ρ i = .vl (.ow s r) d) (hp : PassesOwn (model X.prog X.w) X.A X.env X.xe) (hc : X.calm = true) (hit : ∀ v, VI X W E (se ρ i (.vl (.bw s (some v)) d)) true tg iter mi) (hg : VG X W (fun _ => true) tg g)
    (hl : ∀ v, Le (ei v s0) (se ρ i (.vl (.bw s (some v)) d))) (hb : ∀ v x s, VB X W E (ρy v x s) body (f x s) fun s' => .nc (ei v s')) (hr : ∀ s, VB X W E (ρ2 s) rest (k s) out) (hk : ∀ v s', Back i ρ (ei v s') (ρ2 s'))
    (hx : ∀ v x s, g (en x) (ei v s) = some (ρy v x s) := by intro _ _ _; rfl) (h1 : ∀ v s', ei v s' i = .vl (.bw s (some v)) d := by intro _ _; rfl) (h2 : ∀ s', ρ2 s' i = .vl (.ow s r) d := by intro _; rfl) (hs : ∀ z, foldedSetIterable iter X.env z = pure z := by intro _; rfl) :
    VB X W E ρ (.For tg iter body [] pos :: rest) (mi.bind fun xs => (forR f xs s0).bind k) out :=
  (pss_cons (ps_for hp hc (pi_any hit) hg (pss_any fun p : V × α × S => hb p.1 p.2.1 p.2.2) hs) (pss_any hr)).wk fun De σ H ⟨H0, F0, F, kk, x, q⟩ => by
  obtain ⟨v0, Hb, _, s01, kb, back⟩ := kk.lend hi
  refine ⟨v0, Hb, F, kb, ((hds_bind q).hd σ kk.same).imp fun xs q J H2 F2 G Y s2 x2 f2 _ wk _ hG hY => ?_⟩
  have k2 := kb.grow s2 x2 f2
  have xb : Ext F Hb F2 := Ext.at kb.same x2
  refine for_it (g := tG X.K W X.N.length (fun _ => true) g) (tb := fun D σ H => ∃ p : V × α × S, tB X.K W E X.N.length (ρy p.1 p.2.1 p.2.2) (f p.2.1 p.2.2) (fun s' => .nc (ei p.1 s')) D σ H) (D := { De with nx := fun σ H => ∃ s, tB X.K W E X.N.length (ρ2 s) (k s) out De σ H })
    wk (fun n σ' H' => ∃ F' s', EnvS X.K W.rc Hb F' H' X.N.length σ' (ei v0 s') ∧ Ext F2 Hb F' ∧ HdS E W H0 ((forR f (xs.drop n) s').bind k) fun b => SPost X.K W X.N.length H0 F0 De (out b)) ⟨F2, s0, k2.le (hl v0), Ext.refl F2 Hb, q⟩ ?_ ?_ ?_
  · rintro n σ' H' hn ⟨F', s', k', x', _⟩
    exact hG rfl H' (x'.up.trans k'.sub) k'.same
  · rintro n v σ' H3 H4 hn ⟨F', s', k', x', q'⟩ hy
    obtain ⟨d, F3, q1, q2, q3, q4, q5⟩ := hY n H3 v H4 F' (by rw [List.length_map]; exact hn) hy x'.up k'.sub
    obtain ⟨y, hy', hd⟩ : ∃ y, xs[n]? = some y ∧ d = en y := by
      rw [List.getElem?_map] at q1
      cases z : xs[n]? with
      | none => rw [z] at q1; cases q1
      | some y => rw [z] at q1; cases q1; exact ⟨y, rfl, rfl⟩
    subst hd
    have dd : xs.drop n = y :: xs.drop (n + 1) := by
      obtain ⟨hlt, rfl⟩ := List.getElem?_eq_some_iff.mp hy'
      exact List.drop_eq_getElem_cons hlt
    rw [dd] at q'
    have q' : HdS E W H0 (((f y s').bind fun s2 => forR f (xs.drop (n + 1)) s2).bind k) _ := q'
    rw [R.bind_assoc] at q'
    have x3 : Ext F2 Hb F3 := x'.trans k'.same q3
    refine ⟨Hb, F3, ei v0 s', en y, ρy v0 y s', k'.grow q2 q3 q4, q5, hx v0 y s', fun σ1 k1 _ => ⟨(v0, y, s'), Hb, F2, F3, k1, x3, ((hds_bind q').up s01).imp fun s2 q7 => ?_⟩⟩
    exact fun σ2 H5 F4 k4 x4 => ⟨⟨F4, s2, k4, x4, q7⟩, ⟨F4, s2, k4, x4, q7⟩⟩
  · rintro σ' H' ⟨F', s', k', x', q'⟩
    rw [List.drop_length] at q'
    obtain ⟨k3, x3⟩ := back F' H' σ' (ei v0 s') (ρ2 s') k' (xb.two x') (h1 v0 s') (h2 s') (hk v0 s')
    exact ⟨s', H0, F0, F', k3, x.two x3, q'⟩
end
theorem Back.e0 {i : Nat} {ρ ρ' : Env} : Back i ρ ρ' e0 := fun _ _ => .inl rfl
theorem Back.fz {i j : Nat} {ρ ρ' ρ2 : Env} {d : D} (h : Back i ρ ρ' ρ2) (e : ρ' j = .vl .fz d) : Back i ρ ρ' (se ρ2 j (.vl .fz d)) := fun n hn => by
  by_cases q : n = j
  · subst q; rw [se_same]; exact .inr (.inl ⟨e.symm, fun s r d z => by rw [e] at z; cases z⟩)
  · rw [se_ne _ _ q]; exact h n hn
theorem Back.ow {i j : Nat} {ρ ρ' ρ2 : Env} {s : Sh} {r : Option V} {d : D} (h : Back i ρ ρ' ρ2) (e : ρ' j = .vl (.ow s r) d) : Back i ρ ρ' (se ρ2 j (.vl (.ow s r) d)) := fun n hn => by
  by_cases q : n = j
  · subst q; rw [se_same]; exact .inr (.inl ⟨e.symm, fun s r d z => by rw [e] at z; cases z⟩)
  · rw [se_ne _ _ q]; exact h n hn
theorem Back.bw {i j : Nat} {ρ ρ' ρ2 : Env} {s : Sh} {v : V} {d : D} (h : Back i ρ ρ' ρ2) (e0 : ρ j = .vl (.bw s (some v)) d) (e : ρ' j = .vl (.bw s (some v)) d) : Back i ρ ρ' (se ρ2 j (.vl (.bw s (some v)) d)) := fun n hn => by
  by_cases q : n = j
  · subst q; rw [se_same]; exact .inr (.inr ⟨s, v, d, rfl, e0, e⟩)
  · rw [se_ne _ _ q]; exact h n hn
/-- the slot itself -/
theorem Back.self {i : Nat} {ρ ρ' ρ2 : Env} {x : Sl} (h : Back i ρ ρ' ρ2) : Back i ρ ρ' (se ρ2 i x) := fun n hn => by
  rw [se_ne _ _ hn]; exact h n hn
end Tx

set_option Elab.async false
set_option linter.all false
set_option maxRecDepth 100000
set_option maxHeartbeats 4000000
/-! A11: defs by their bodies, calls, the law's end. -/
namespace Tx
open PySem L2 PyProof.Rows En EnL

/-- room for k calls, and no guard is up -/
structure Rm (k : Nat) (A : Around) : Prop where
  room : Room k A
  gds : A.guards = some []
theorem Rm.mono {j k : Nat} {A : Around} (r : Rm k A) (h : j ≤ k) : Rm j A := ⟨r.room.mono h, r.gds⟩
/-- a def keeps its promise wherever no guard is up -/
structure FnG (P : Program) (w : World) (K : PySem.W.Frag) (mg : Str → Option Value) (base : Heap) (k : Nat) (f : Addr) (fd : FuncData) (ps : List Str) (sp : Sp) : Prop where
  len : ∀ vs H Q E, sp vs H Q E → vs.length = ps.length
  run : ∀ (A : Around) (outer : List PySem.Env) (s : Shared) (H : Hp) (args : Args) (us : List Value) (vs : List V) (Q : VK) (E : XK), Rm k A → Env0 P w K mg base A outer s H → BindsTo s fd args (ps.zip us) → Vals vs us → sp vs H Q E →
    codeAny (model P w) A (.call (.ref f) args) (CR (L2.CX P w) outer P w H s Q E) s
theorem FnG.mono {P : Program} {w : World} {K : PySem.W.Frag} {mg : Str → Option Value} {base : Heap} {j k : Nat} {f : Addr} {fd : FuncData} {ps : List Str} {sp : Sp} (F : FnG P w K mg base j f fd ps sp) (h : j ≤ k) : FnG P w K mg base k f fd ps sp :=
  ⟨F.len, fun A outer s H args us vs Q E hr => F.run A outer s H args us vs Q E (hr.mono h)⟩
theorem FnG.of {P : Program} {w : World} {K : PySem.W.Frag} {mg : Str → Option Value} {base : Heap} {k : Nat} {f : Addr} {fd : FuncData} {ps : List Str} {sp : Sp} (F : FnOk P w K mg base (L2.CX P w) k f fd ps sp) : FnG P w K mg base k f fd ps sp :=
  ⟨F.len, fun A outer s H args us vs Q E hr => F.run A outer s H args us vs Q E hr.room⟩

/-- a def of the text keeps its promise, by its body's reading -/
theorem fnG_of {P : Program} {w : World} {K : PySem.W.Frag} {mg : Str → Option Value} {base : Heap} {k : Nat} {f : Addr} {fd : FuncData} {x qual : Str} {st : Stmt} {N ps : List Str} {sp : Sp} (F : Fun K x qual st f fd) (S : FnScope N ps (defScope st)) (len : ∀ vs H Q E, sp vs H Q E → vs.length = ps.length)
    (hbody : ∀ (cdv : Value) (A : Around) (outer : List PySem.Env) (s : Shared) (H : Hp) (vs : List V) (Q : VK) (E : XK), Rm k (A.deeper (envOfC qual (defScope st) s.heap.objs.size f cdv)) → sp vs H Q E →
      ∃ t, PSs (cxOf (L2.CX P w) P w K mg base N qual (defScope st) f cdv A outer s H E) (defBody st) t ∧ t { nx := fun _ H' => Q .non H', rt := Q } (L2.start N vs) H) : FnG P w K mg base (k + 1) f fd ps sp := by
  obtain ⟨oc, od, kV, doc, pm, an, cdv, ct, osl, rfl, lk, hcd⟩ := F.ex
  refine ⟨len, fun A outer s H args us vs Q E hr e0 hb r hsp => ?_⟩
  have hl : vs.length = ps.length := len _ _ _ _ hsp
  have inK : K.In s.heap := e0.mod.kin.keeps fun b o z => (e0.bs b o z).1
  have limit : s.heap.NoLimit := e0.mod.nolimit.keeps fun b o z => (e0.bs b o z).1
  have params : ∀ y ∈ ps.zip us, (defScope st).names.lookup y.1 = some .local ∨ ((defScope st).names.lookup y.1 = some .cell ∧ ((cellsFrom (s.heap.objs.size + 1) (defScope st).names []).lookup y.1).isSome = true) := by
    rintro ⟨n, v⟩ hy
    cases S.par n (List.of_mem_zip hy).1 with
    | inl q => exact .inl q
    | inr q => exact .inr ⟨q, PySem.W.cellsFrom_some _ _ _ (.inl q)⟩
  have code := PySem.W.codeRec_of inK hcd
  refine codeAny_call_function hr.room.depth (inK _ _ lk) rfl S.co S.gen rfl code (hb _ _ _ _ ?_)
  refine wpAny_newFunctionEnv_cells S.kind params fun env he s1 xx => ?_
  subst he
  refine ⟨limit.keeps xx.toInCall.keep, codeAny_func ?_⟩
  obtain ⟨t, ht, hq⟩ := hbody cdv A outer s H vs Q E ⟨hr.room.deeper _, hr.gds⟩ hsp
  have I := inv_start (CX := L2.CX P w) (P := P) (w := w) (mg := mg) (base := base) (E := E) (outer := outer) (A := A) S hr.room.hd e0 hl r xx
  refine wpAny_mono (ht.run [] s1 (L2.start N vs) H _ I hq) (fun fl s' hs => ?_) fun e s' hs => hs
  cases fl with
  | next =>
    obtain ⟨σ', H', J, q⟩ := hs
    exact ⟨V.non, H', J.os, J.bare, J.base, J.hok, rfl, q⟩
  | ret u =>
    obtain ⟨v, σ', H', J, rv, q⟩ := hs
    exact ⟨v, H', J.os, J.bare, J.base, J.hok, rv, q⟩
  | brk =>
    obtain ⟨_, _, _, q⟩ := hs
    cases q
  | cont =>
    obtain ⟨_, _, _, q⟩ := hs
    cases q

/-! ### calls -/
section
variable {X : Cx} {k : Nat} {f C : Addr} {fd : FuncData} {ps : List Str} {sp : Sp} {E : L2.St → XK} {x : Str} {p pos : Pos} {e : Expr} {es : List Expr} {t : TA}
theorem run_fnG {pins : List (Addr × Obj)} {σ : L2.St} {H : Hp} {s : Shared} {Q : VK} {us : List Value} {vs : List V} (F : FnG X.prog X.w X.K X.mg X.base k f fd ps sp) (hr : Rm k X.A) (hb : Binds X.K fd ps []) (hx : PassesAt (L2.CX X.prog X.w) X σ (E σ))
    (I : Inv X pins σ H s) (r : Vals vs us) (h : sp vs H Q (E σ)) : wpAny (model X.prog X.w) X.A (call (.ref f) us) (EP X pins σ Q) X.xe s := by
  have lens : us.length = ps.length := r.length.symm.trans (F.len vs H Q (E σ) h)
  have bd := hb s us I.kIn ((congrArg List.length (List.append_nil us)).trans lens)
  rw [List.append_nil] at bd
  have run := F.run X.A X.stack s H ⟨us, []⟩ us vs Q (E σ) hr I.env0 bd r h
  refine wpAny_call (codeAny_mono run fun res s' z => ?_)
  rcases res with e | fl
  · exact hx pins H s e s' I z
  · rcases fl with u | _ | _ | _
    all_goals first | exact I.after z | exact z.elim
theorem pe_callG (F : FnG X.prog X.w X.K X.mg X.base k f fd ps sp) (hr : Rm k X.A) (hg : Gl X x) (hm : X.mg x = some (.ref f)) (hk : PySem.W.keepIn X.K (.ref f) = true) (hb : Binds X.K fd ps []) (hx : ∀ σ, PassesAt (L2.CX X.prog X.w) X σ (E σ))
    (ha : PA X (e :: es) t) (hdb : (x == ("__debug__" : Str)) = false := by decide) (he : starEach (e :: es) X.env = (false, eval e X.env) :: starEach es X.env := by rfl) (hpl : (backTo pos (starEach es X.env)).any (·.1) = false := by rfl) :
    PE X (.Call (.Name x p) (e :: es) [] pos) (tCallS sp E t) := ⟨fun pins s σ H Q I h =>
  wpAny_Call_Name_kw (ld_glob I hg hm (PySem.W.callWith_K (h₀ := X.base) I.ok.mod.kin hk (thn (ha.run pos pins s σ H _ I h) fun us s1 q => by
    obtain ⟨vs, H1, I1, r, q⟩ := q
    exact ⟨I1.kIn, run_fnG F hr hb (hx σ) I1 r q⟩) he hpl) hdb)⟩
end


section
variable {X : Cx} {E : L2.St → XK}
theorem pass_off (hN : X.xe = fun _ _ => False) : ∀ σ, PassesAt (L2.CX X.prog X.w) X σ (EN σ) := fun σ pins H s e s' I h => by
  obtain ⟨_, _, _, _, _, _, _, _, _, _, _, _, z⟩ := h
  exact z.elim
theorem pass_any : ∀ σ, PassesAt (L2.CX X.prog X.w) X σ (EN σ) := fun σ pins H s e s' I h => by
  obtain ⟨_, _, _, _, _, _, _, _, _, _, _, _, z⟩ := h
  exact z.elim
theorem pass_fn {E' : XK} (tk : Takes X (fun cls d _ H => E' cls d H)) : ∀ σ, PassesAt (L2.CX X.prog X.w) X σ ((fun _ => E') σ) := fun σ => passAt tk σ
end
/-- the promise: from data to data; the result is new to the extent s -/
def spT {A β : Type} [EnL A] [En β] (K : PySem.W.Frag) (W : Vp) (f : A → R β) (s : Sh) : Sp := fun vs H Q E => ∃ F a, Same F H ∧ RpA K W.rc F vs (enl a) ∧ Hd E W H (f a) fun b => Post K W F H s Q (en b)
/-- .. of a def that changes one of its arguments -/
def spI {A B β δ ε : Type} [EnL A] [EnL B] [En β] [En δ] [En ε] (K : PySem.W.Frag) (W : Vp) (s1 : Sh) (f : A → δ → B → R (β × ε)) (s s2 : Sh) : Sp := fun vs H Q E => ∃ F ws u us x z y fq, vs = ws ++ u :: us ∧ Same F H ∧ Ow K W.rc F H s1 u (en z) fq ∧ (∀ a ∈ fq, F a = none) ∧ RpA K W.rc F ws (enl x) ∧ RpA K W.rc F us (enl y) ∧
  Hd E W (hid H fq) (f x z y) fun b => ∀ v H' F' fp fr, Same (hid H fq) H' → Ext F (hid H fq) F' → Same F' H' → Ow K W.rc F' H' s v (en b.1) fp → Ow K W.rc F' H' s2 u (en b.2) fr → (∀ a ∈ fp, hid H fq a = none ∧ F' a = none) → (∀ a ∈ fr, hid H fq a = none ∧ F' a = none) → (∀ a ∈ fp, a ∉ fr) → Q v H'
/-- the slots at a def's start -/
def argE : Nat → List D → Env
  | _, [] => e0
  | i, d :: ds => se (argE (i + 1) ds) i (.vl .fz d)
theorem argE_get : ∀ (ds : List D) (k i : Nat) (m : Md) (d : D), argE k ds i = .vl m d → k ≤ i ∧ m = .fz ∧ ds[i - k]? = some d
  | [], _, _, _, _, h => by cases h
  | x :: ds, k, i, m, d, h => by
    unfold argE at h
    by_cases q : i = k
    · subst q
      rw [se_same] at h
      cases h
      exact ⟨Nat.le_refl _, rfl, by simp⟩
    · rw [se_ne _ _ q] at h
      obtain ⟨h1, h2, h3⟩ := argE_get ds (k + 1) i m d h
      refine ⟨by omega, h2, ?_⟩
      rw [show i - k = (i - (k + 1)) + 1 by omega]
      simpa using h3
theorem start_get {N : List Str} {vs : List V} {i : Nat} {v : V} (h : vs[i]? = some v) : (L2.start N vs)[i]? = some (some v) := by
  unfold L2.start
  have hl := (List.getElem?_eq_some_iff.mp h).1
  rw [List.getElem?_append_left (by simpa using hl), List.getElem?_map, h]
  rfl
theorem start_len {N : List Str} {vs : List V} (h : vs.length ≤ N.length) : (L2.start N vs).length = N.length := by
  unfold L2.start
  simp
  omega
section
variable {K : PySem.W.Frag} {W : Vp} {A β : Type} [EnL A] [En β]
theorem start_env {N : List Str} {F H : Hp} {vs : List V} {a : A} (s : Same F H) (r : RpA K W.rc F vs (enl a)) (hl : vs.length ≤ N.length) : EnvS K W.rc H F H N.length (L2.start N vs) (argE 0 (enl a)) := by
  refine ⟨Same.refl H, s, start_len hl, fun _ => [], fun i m d e => ?_, fun i j s r d t q e n h1 h2 => ?_⟩
  · obtain ⟨_, h2, h3⟩ := argE_get _ _ _ _ _ e
    subst h2
    obtain ⟨v, q1, q2⟩ := r.get h3
    exact ⟨v, start_get (by simpa using q1), rfl, q2⟩
  · cases (argE_get _ _ _ _ _ h1).2.1
/-- how a def's end is told -/
def rtOut (s : Sh) : β → Out := fun b => .rt s (en b) none
/-- a def without return -/
def nxOut : Unit → Out := fun _ => .nx e0
theorem body_rt {E : XK} {N : List Str} {vs : List V} {H : Hp} {Q : VK} {f : A → R β} {s : Sh} (hl : vs.length ≤ N.length) (h : spT K W f s vs H Q E) : ∃ a : A, tB K W (fun _ => E) N.length (argE 0 (enl a)) (f a) (rtOut s) { nx := fun _ H' => Q .non H', rt := Q } (L2.start N vs) H := by
  obtain ⟨F, a, s1, r, m⟩ := h
  refine ⟨a, H, F, F, start_env s1 r hl, Ext.refl F H, ?_⟩
  cases hf : f a with
  | ok b =>
    rw [hf] at m
    exact fun v H' F' fp a b c d e => okH m v H' F' fp a b c d e
  | ex c => rw [hf] at m; exact fun _ H' z => m H' z
  | no => rw [hf] at m; exact m
theorem body_nx {E : XK} {N : List Str} {vs : List V} {H : Hp} {Q : VK} {f : A → R Unit} {s : Sh} (hl : vs.length ≤ N.length) (h : spT K W f s vs H Q E) : ∃ a : A, tB K W (fun _ => E) N.length (argE 0 (enl a)) (f a) nxOut { nx := fun _ H' => Q .non H', rt := Q } (L2.start N vs) H := by
  obtain ⟨F, a, s1, r, m⟩ := h
  refine ⟨a, H, F, F, start_env s1 r hl, Ext.refl F H, ?_⟩
  cases hf : f a with
  | ok b =>
    rw [hf] at m
    exact fun σ' H' F' k x => okH m .non H' F' [] k.same x k.sub (.sc rfl .non) fun a ha => nomatch ha
  | ex c => rw [hf] at m; exact fun _ H' z => m H' z
  | no => rw [hf] at m; exact m
end

/-- the def called nm is there, and hands back f of its arguments -/
structure Cal {A β : Type} [EnL A] [En β] (P : Program) (w : World) (K : PySem.W.Frag) (mg : Str → Option Value) (base : Heap) (W : Vp) (nm : Str) (k : Nat) (f : A → R β) (s : Sh) : Prop where
  ex : ∃ (fa : Addr) (fd : FuncData) (ps : List Str), mg nm = some (.ref fa) ∧ PySem.W.keepIn K (.ref fa) = true ∧ Binds K fd ps [] ∧ FnG P w K mg base k fa fd ps (spT K W f s)
/-- a def of the text, under the module's name nm -/
structure Dn (K : PySem.W.Frag) (mg : Str → Option Value) (nm x : Str) (st : Stmt) (ps : List Str) : Prop where
  ex : ∃ (f : Addr) (fd : FuncData), mg nm = some (.ref f) ∧ Fun K x x st f fd ∧ Binds K fd ps []

section
variable {P : Program} {w : World} {K : PySem.W.Frag} {mg : Str → Option Value} {base : Heap} {W : Vp} {A β : Type} [EnL A] [En β]
/-- how the arguments of a def bind -/
theorem dn_mk {nm x : Str} {st : Stmt} {ps : List Str} {f : Addr} {oc : Value} {od an : Option Addr} {osl : Array (Option Value)} {kV doc pm cdv ct : Value} (a : mg nm = some (.ref f))
    (l : K.lookup f = some ⟨oc, od, .func (PySem.W.fnOf x x (defArgs st) (defBody st) (defScope st) .none kV doc pm an cdv ct), osl⟩) (c : PySem.W.codeIn K cdv x = true) (k : PySem.W.keepIn K (.ref f) = true)
    (hb : ∀ (kV doc pm : Value) (an : Option Addr) (cdv ct : Value) (us : List Value), us.length = ps.length → bindArgs (PySem.W.fnOf x x (defArgs st) (defBody st) (defScope st) .none kV doc pm an cdv ct) ⟨us, []⟩ = pure (ps.zip us)) : Dn K mg nm x st ps :=
  ⟨f, _, a, fun_mk l c k, (fun_mk l c k).binds hb⟩

theorem fn_rt {nm : Str} {st : Stmt} {N ps : List Str} {k : Nat} {f : A → R β} {s : Sh} {fa : Addr} {fd : FuncData} (F : Fun K nm nm st fa fd) (S : FnScope N ps (defScope st))
    (hb : ∀ (cdv : Value) (Ar : Around) (outer : List PySem.Env) (sh : Shared) (H : Hp) (E : XK), Rm k (Ar.deeper (envOfC nm (defScope st) sh.heap.objs.size fa cdv)) → ∀ a : A, VB (cxOf (L2.CX P w) P w K mg base N nm (defScope st) fa cdv Ar outer sh H E) W (fun _ => E) (argE 0 (enl a)) (defBody st) (f a) (rtOut s))
    (hn : ∀ a : A, (enl a).length = ps.length := by intro _; rfl) (hl : Nat.ble ps.length N.length = true := by rfl) : FnG P w K mg base (k + 1) fa fd ps (spT K W f s) :=
  fnG_of F S (fun vs H Q E ⟨_, a, _, r, _⟩ => by rw [r.len, hn]) fun cdv Ar outer sh H vs Q E hr h => by
    have l : vs.length ≤ N.length := by
      obtain ⟨_, a, _, r, _⟩ := h
      rw [r.len, hn]
      exact Nat.le_of_ble_eq_true hl
    obtain ⟨a, q⟩ := body_rt (N := N) l h
    exact ⟨_, hb cdv Ar outer sh H E hr a, q⟩
theorem fn_nx {nm : Str} {st : Stmt} {N ps : List Str} {k : Nat} {f : A → R Unit} {fa : Addr} {fd : FuncData} (F : Fun K nm nm st fa fd) (S : FnScope N ps (defScope st))
    (hb : ∀ (cdv : Value) (Ar : Around) (outer : List PySem.Env) (sh : Shared) (H : Hp) (E : XK), Rm k (Ar.deeper (envOfC nm (defScope st) sh.heap.objs.size fa cdv)) → ∀ a : A, VB (cxOf (L2.CX P w) P w K mg base N nm (defScope st) fa cdv Ar outer sh H E) W (fun _ => E) (argE 0 (enl a)) (defBody st) (f a) nxOut)
    (hn : ∀ a : A, (enl a).length = ps.length := by intro _; rfl) (hl : Nat.ble ps.length N.length = true := by rfl) : FnG P w K mg base (k + 1) fa fd ps (spT K W f .frz) :=
  fnG_of F S (fun vs H Q E ⟨_, a, _, r, _⟩ => by rw [r.len, hn]) fun cdv Ar outer sh H vs Q E hr h => by
    have l : vs.length ≤ N.length := by
      obtain ⟨_, a, _, r, _⟩ := h
      rw [r.len, hn]
      exact Nat.le_of_ble_eq_true hl
    obtain ⟨a, q⟩ := body_nx (N := N) l h
    exact ⟨_, hb cdv Ar outer sh H E hr a, q⟩
/-- THE RULE for a def, as its callers see it -/
theorem cal {nm : Str} {st : Stmt} {N ps : List Str} {k : Nat} {f : A → R β} {s : Sh} (d : Dn K mg nm nm st ps) (S : FnScope N ps (defScope st))
    (hb : ∀ (fa : Addr) (cdv : Value) (Ar : Around) (outer : List PySem.Env) (sh : Shared) (H : Hp) (E : XK), Rm k (Ar.deeper (envOfC nm (defScope st) sh.heap.objs.size fa cdv)) → ∀ a : A, VB (cxOf (L2.CX P w) P w K mg base N nm (defScope st) fa cdv Ar outer sh H E) W (fun _ => E) (argE 0 (enl a)) (defBody st) (f a) (rtOut s))
    (hn : ∀ a : A, (enl a).length = ps.length := by intro _; rfl) (hl : Nat.ble ps.length N.length = true := by rfl) : Cal P w K mg base W nm (k + 1) f s := by
  obtain ⟨fa, fd, a, F, c⟩ := d.ex
  exact ⟨fa, fd, ps, a, F.kp, c, fn_rt F S (hb fa) hn hl⟩
theorem calN {nm : Str} {st : Stmt} {N ps : List Str} {k : Nat} {f : A → R Unit} (d : Dn K mg nm nm st ps) (S : FnScope N ps (defScope st))
    (hb : ∀ (fa : Addr) (cdv : Value) (Ar : Around) (outer : List PySem.Env) (sh : Shared) (H : Hp) (E : XK), Rm k (Ar.deeper (envOfC nm (defScope st) sh.heap.objs.size fa cdv)) → ∀ a : A, VB (cxOf (L2.CX P w) P w K mg base N nm (defScope st) fa cdv Ar outer sh H E) W (fun _ => E) (argE 0 (enl a)) (defBody st) (f a) nxOut)
    (hn : ∀ a : A, (enl a).length = ps.length := by intro _; rfl) (hl : Nat.ble ps.length N.length = true := by rfl) : Cal P w K mg base W nm (k + 1) f .frz := by
  obtain ⟨fa, fd, a, F, c⟩ := d.ex
  exact ⟨fa, fd, ps, a, F.kp, c, fn_nx F S (hb fa) hn hl⟩
end
section
variable {X : Cx} {W : Vp} {E : L2.St → XK} {ρ : Env} {s : Sh} {A β : Type} [EnL A] [En β] {f : A → R β} {m : R A} {k j : Nat} {nm : Str} {p pos : Pos} {e : Expr} {es : List Expr}
theorem ve_call (c : Cal X.prog X.w X.K X.mg X.base W nm j f s) (hr : Rm k X.A) (hx : ∀ σ, PassesAt (L2.CX X.prog X.w) X σ (E σ)) (ha : VA X W E ρ .frz (e :: es) m) (hj : j ≤ k := by decide) (hg : Gl X nm := by rfl)
    (hdb : (nm == ("__debug__" : Str)) = false := by decide) (he : starEach (e :: es) X.env = (false, eval e X.env) :: starEach es X.env := by rfl) (hpl : (backTo pos (starEach es X.env)).any (·.1) = false := by rfl) :
    VE X W E ρ s (.Call (.Name nm p) (e :: es) [] pos) (m.bind f) := by
  obtain ⟨fa, fd, ps, a, b, d, q⟩ := c.ex
  exact (pe_callG q (hr.mono hj) hg a b d hx ha hdb he hpl).wk fun σ H Q ⟨H0, F, k, q⟩ => ⟨H0, F, k, (hd_bind q).imp fun a m1 vs H1 F1 fp s1 x1 f1 w1 _ => ⟨F1, a, f1, w1.toRp.2, (m1.heap s1).imp fun d q => q.step s1 x1⟩⟩
end

/-! ### the law's end -/
theorem caller_gds : callerA.guards = some [] := rfl
/-- what is asked of the law's def: from the script's ints, True -/
def spLaw (K : PySem.W.Frag) : Sp := fun vs H Q _ => ∃ (a : Addr) (ns : List Int), vs = [.ref a] ∧ SqR K H a (ns.map V.int) ∧ ns.length ≤ 63 ∧ ∀ H', Q (.bl true) H'
section
variable {P : Program} {w : World} {K : PySem.W.Frag} {mg mb : Str → Option Value} {k : Nat} {fa a : Addr} {fd : FuncData} {x : Str} {sp : Sp} {s₁ : Shared} {vs : List Value} {ns : List Int}
theorem law_callH (KX : K.In s₁.heap) (hns : s₁.heap.Ns mainGlobals mg) (hb : s₁.heap.Ns builtinsNs mb) (hbb : ∀ x : Str, x ≠ "__name__" → mb x = bootBuiltins x) (hlim : s₁.heap.NoLimit) (hg : s₁.gens = #[])
    (ha : s₁.heap.get? a = some { cls := .type "list", data := .seq vs.toArray }) (hr : Room k callerA)
    (F : ∀ base : Heap, K.In base → base.Ns mainGlobals mg → FnG P w K mg base k fa fd [x] sp) (hbind : ∀ (s : Shared) (u : Value), BindsTo s fd ⟨[u], []⟩ [(x, u)])
    (H : Hp) (hsp : sp [.ref a] H (fun v _ => v = .bl true) fun _ _ _ => False) (hok : HOk P w H s₁.heap) (at0 : ∀ b, b ≠ a → H b = none) (nK : H a = none ∨ K.lookup a = none ∧ ∃ u, H a = some (.frz { cls := .type "list", data := .seq vs.toArray } u)) :
    codeAny (model P w) callerA (.call (.ref fa) ⟨[.ref a], []⟩) (fun r s' => r = .ok (.ret (.bool true)) ∧ OldK s₁.heap s'.heap ∧ s'.os = s₁.os ∧ AllBare s'.gens) s₁ := by
  have under : ∀ {b : Addr} {o : Obj}, s₁.heap.get? b = some o → H b = none → (hidT s₁.heap H).get? b = some o := fun e n => hidT_get e n
  have dict : ∀ {b : Addr} {m : Str → Option Value}, s₁.heap.Ns b m → (hidT s₁.heap H).Ns b m := fun {b m} z => by
    obtain ⟨o, es, ep, e, d, r⟩ := z
    refine ⟨o, es, ep, under e (at0 b fun y => ?_), d, r⟩
    subst y
    rw [ha] at e; cases e
    cases d
  have kin : K.In (hidT s₁.heap H) := fun b o e => under (KX b o e) (by
    by_cases y : b = a
    · subst y
      rcases nK with z | ⟨z, _⟩
      · exact z
      · rw [z] at e; cases e
    · exact at0 b y)
  have md : Mod K mg (hidT s₁.heap H) := ⟨kin, dict hns, ⟨mb, dict hb, hbb⟩, by
    obtain ⟨mc, h1, h2⟩ := hlim
    exact ⟨mc, dict h1, h2⟩⟩
  have none0 : ∀ b : Addr, b ∉ ([] : List Addr) := fun b z => by cases z
  have env0 : Env0 P w K mg (hidT s₁.heap H) callerA [] s₁ H := ⟨rfl, md, fun b o e => of_hidT e, Nat.le_of_eq (hidT_size _ _), trivial, fun b z => (none0 b z).elim, hok, AllBare.of_eq hg⟩
  have run := (F _ kin (dict hns)).run callerA [] s₁ H ⟨[.ref a], []⟩ [.ref a] [.ref a] _ _ ⟨hr, caller_gds⟩ env0 (hbind s₁ (.ref a)) (.cons rfl .nil) hsp
  refine codeAny_mono run fun r s' z => ?_
  rcases r with e | fl
  · obtain ⟨_, _, _, _, _, _, _, _, _, _, _, _, q⟩ := z
    exact q.elim
  · rcases fl with _ | _ | _ | u
    all_goals first | exact z.elim | skip
    obtain ⟨v, H', os, bare, un, hok', r', q⟩ := z
    have q' : v = .bl true := q
    subst q'
    cases r'
    refine ⟨rfl, OldK.of_keep fun b o e => ?_, os, bare⟩
    by_cases y : H b = none
    · exact un.keep b o e y (none0 b) (none0 b)
    · have e1 : b = a := Classical.byContradiction fun z => y (at0 b z)
      subst e1
      rcases nK with z | ⟨_, u, z⟩
      · exact (y z).elim
      · obtain ⟨e2, _⟩ := hok' b _ (un.frzs b _ _ z)
        rw [ha] at e; cases e
        exact e2
theorem law_callG (KX : K.In s₁.heap) (hns : s₁.heap.Ns mainGlobals mg) (hb : s₁.heap.Ns builtinsNs mb) (hbb : ∀ x : Str, x ≠ "__name__" → mb x = bootBuiltins x) (hlim : s₁.heap.NoLimit) (hg : s₁.gens = #[])
    (ha : s₁.heap.get? a = some { cls := .type "list", data := .seq vs.toArray }) (hi : IntsAre vs ns) (hl : ns.length ≤ sizeLine) (hr : Room k callerA)
    (F : ∀ base : Heap, K.In base → base.Ns mainGlobals mg → FnG P w K mg base k fa fd [x] sp) (hbind : ∀ (s : Shared) (u : Value), BindsTo s fd ⟨[u], []⟩ [(x, u)])
    (hsp : ∀ H : Hp, SqR K H a (ns.map V.int) → sp [.ref a] H (fun v _ => v = .bl true) fun _ _ _ => False) :
    codeAny (model P w) callerA (.call (.ref fa) ⟨[.ref a], []⟩) (fun r s' => r = .ok (.ret (.bool true)) ∧ OldK s₁.heap s'.heap ∧ s'.os = s₁.os ∧ AllBare s'.gens) s₁ := by
  have vals := vals_ints hi
  have lens := hi.length
  cases hk : K.lookup a with
  | some o =>
    have e := KX a o hk
    rw [ha] at e
    cases e
    exact law_callH KX hns hb hbb hlim hg ha hr F hbind (fun _ => none) (hsp _ (.inr ⟨vs.toArray, _, hk, by rw [List.size_toArray, lens]; exact hl, by simpa using vals⟩)) (fun b u z => by cases z) (fun b _ => rfl) (.inl rfl)
  | none =>
    have at1 : (if a = a then some (HO.frz { cls := .type "list", data := .seq vs.toArray } (.lst (ns.map V.int))) else none) = some (HO.frz { cls := .type "list", data := .seq vs.toArray } (.lst (ns.map V.int))) := if_pos rfl
    refine law_callH KX hns hb hbb hlim hg ha hr F hbind (fun b => if b = a then some (.frz { cls := .type "list", data := .seq vs.toArray } (.lst (ns.map V.int))) else none) (hsp _ (.inl (.inr ⟨_, at1⟩))) (fun b u z => ?_) (fun b z => if_neg z) (.inr ⟨hk, _, at1⟩)
    by_cases y : b = a
    · subst y
      have z' := at1.symm.trans z
      cases z'
      exact ⟨ha, by rw [List.length_map]; exact hl, vs, _, vals, ha⟩
    · have z' := (if_neg y).symm.trans z
      cases z'
end
theorem walkG {l : PySem.W.OpenLaw} {k : Nat} {q : Program} {loose : List Str} {XP : (Str → Option Value) → Heap → Prop} {YP : World → Heap → Prop} {d : DefRec} {K : Params → PySem.W.Frag} {sp : PySem.W.Frag → Sp} {x : Str}
    (hn : l.most = some 63) (hdf : d.params.defaults = []) (hr : Room k callerA) (hY : ∀ (w : World) (h : Heap), YP w h → (K w.params).In h)
    (F : ∀ (w : World) (mg : Str → Option Value) (fa : Addr) (h : Heap), (K w.params).In h → h.Ns mainGlobals mg → mg d.name = some (.ref fa) →
      ∃ fd : FuncData, (∀ (s : Shared) (u : Value), BindsTo s fd ⟨[u], []⟩ [(x, u)]) ∧ ∀ base : Heap, (K w.params).In base → base.Ns mainGlobals mg → FnG l.prog w (K w.params) mg base k fa fd [x] (sp (K w.params)))
    (hsp : ∀ (K : PySem.W.Frag) (H : Hp) (a : Addr) (ns : List Int), ns.length ≤ 63 → SqR K H a (ns.map V.int) → sp K [.ref a] H (fun v _ => v = .bl true) fun _ _ _ => False) :
    PySem.W.WalkO q loose XP YP l.row.toRowW d [] (fun f vs => PySem.call f vs) := by
  refine Att.attach_call hn hdf fun w s₀ s₁ mg mb fa o pm cd doc a vs ns G Y ho hd hcd hmg hobj hints hlen hg => ?_
  have KX := hY w _ Y
  obtain ⟨fd, hb, hF⟩ := F w mg fa _ KX G.T.g hmg
  exact law_callG KX G.T.g G.T.b G.T.builtins G.T.nolimit hg hobj hints (Nat.le_trans hlen (by decide)) hr hF hb fun H hS => hsp _ H a ns hlen hS

/-- the law's def by its data: it is enough that the function says True of every script -/
theorem law_end {P : Program} {w : World} {K : PySem.W.Frag} {mg : Str → Option Value} {base : Heap} {W : Vp} {k : Nat} {fa : Addr} {fd : FuncData} {ps : List Str} {f : List Int → R Bool} {s : Sh} (F : FnG P w K mg base k fa fd ps (spT K W (fun a : List Int × Unit => f a.1) s))
    (t : ∀ ns : List Int, ns.length ≤ 63 → f ns = .ok true) : FnG P w K mg base k fa fd ps (spLaw K) := by
  have z : ∀ vs H Q E, spLaw K vs H Q E → spT K W (fun a : List Int × Unit => f a.1) s vs H Q E := fun vs H Q E ⟨a, ns, e, hs, hl, q⟩ => by
    subst e
    refine ⟨H, (ns, ()), Same.refl H, .cons (.lst hs RpA.ints) .nil, ?_⟩
    show Hd E W H (f ns) _
    rw [t ns hl]
    exact fun v H' F' fp _ _ _ w _ => by
      have r : v = .bl true := by
        cases w with
        | sc _ r => cases r; rfl
        | fz r => cases r; rfl
      rw [r]; exact q H'
  exact ⟨fun vs H Q E q => F.len vs H Q E (z _ _ _ _ q), fun A outer s H args us vs Q E hr he hb hv hs => F.run A outer s H args us vs Q E hr he hb hv (z _ _ _ _ hs)⟩
/-- an int of the module -/
theorem ve_k {X : Cx} {W : Vp} {E : L2.St → XK} {ρ : Env} {nm : Str} {n : Int} {pos : Pos} (h : ∃ t, X.mg nm = some (.int n t)) (hg : Gl X nm := by rfl) (hd : (nm == ("__debug__" : Str)) = false := by decide) : VE X W E ρ .frz (.Name nm pos) (.ok n) := by
  obtain ⟨t, h⟩ := h
  exact ve_c (v := .int n) (pe_glob hg h ⟨t, rfl⟩ hd) fun _ _ _ => .int n
/-- an own exception class over ValueError (by way of LightError, or without) -/
structure ExF (K : PySem.W.Frag) (mg : Str → Option Value) (nm : Str) (C : Addr) : Prop where
  g : mg nm = some (.ref C)
  x : PySem.W.excIn K C [.type "ValueError", .type "Exception", .type "BaseException", .type "object"] "ValueError.__new__" = true
  k : PySem.W.keepIn K (.ref C) = true
  b : PySem.W.subIn K (.ref C) (.type "BaseException") = some true
  t : PySem.W.typeIn K (.ref C) = some (.type "type")
end Tx

set_option Elab.async false
set_option linter.all false
set_option maxRecDepth 100000
set_option maxHeartbeats 4000000
/-! A12: a part of what a slot owns is changed. -/
namespace Tx
open PySem L2 En EnL

/-- the part c at v', of what stands for a at v; put: another part in its place -/
def Foc {α γ : Type} [En α] [En γ] (K : PySem.W.Frag) (C : Rc) (F H : Hp) (s : Sh) (v : V) (fp : List Addr) (s' : Sh) (v' : V) (c : γ) (fa : List Addr) (put : γ → α) : Prop :=
  Ow K C F H s' v' (en c) fa ∧ ∃ fb : List Addr, (∀ a, a ∈ fp ↔ a ∈ fa ∨ a ∈ fb) ∧ (∀ a ∈ fa, a ∉ fb) ∧
    ∀ (F' H' : Hp) (z : γ) (fq : List Addr), Same F F' → (∀ a ∈ fb, H' a = H a) → Ow K C F' H' s' v' (en z) fq → (∀ a ∈ fq, a ∉ fb) → ∃ fr : List Addr, (∀ a, a ∈ fr ↔ a ∈ fq ∨ a ∈ fb) ∧ Ow K C F' H' s v (en (put z)) fr
/-- the reading of a place within what slot i owns -/
def tP {α γ : Type} [En α] [En γ] (K : PySem.W.Frag) (W : Vp) (E : L2.St → XK) (L : Nat) (ρ : Env) (i : Nat) (s : Sh) (r : Option V) (a : α) (s' : Sh) (m : R (γ × (γ → α))) : TE := fun σ H Q => ∃ H0 F, EnvS K W.rc H0 F H L σ ρ ∧
  ∃ v fp, Own K W.rc H0 F H L σ ρ i s r (en a) v fp ∧ Hd (E σ) W H m fun p => ∀ v' fa H1 F1, Same H H1 → Ext F H F1 → Same F1 H1 → Foc K W.rc F1 H1 s v fp s' v' p.1 fa p.2 → Q v' H1
abbrev VP {α γ : Type} [En α] [En γ] (X : Cx) (W : Vp) (E : L2.St → XK) (ρ : Env) (i : Nat) (s : Sh) (r : Option V) (a : α) (s' : Sh) (e : Expr) (m : R (γ × (γ → α))) : Prop := PE X e (tP X.K W E X.N.length ρ i s r a s' m)
section
variable {α γ δ : Type} [En α] [En γ] [En δ] {K : PySem.W.Frag} {C : Rc} {F F1 H H1 H0 : Hp} {s s' : Sh} {v v' : V} {a : α} {c : γ} {fp fa : List Addr} {put : γ → α} {L : Nat} {σ : L2.St} {ρ : Env} {i : Nat} {r : Option V}
theorem Foc.refl (h : Ow K C F H s v (en a) fp) : Foc K C F H s v fp s v a fp (fun z : α => z) := ⟨h, [], by simp, by simp, fun F' H' z fq f g w n => ⟨fq, by simp, w⟩⟩
theorem Foc.grow (h : Foc K C F H s v fp s' v' c fa put) (o : Ow K C F H s v (en a) fp) (x : Same F F1) (sm : Same H H1) : Foc K C F1 H1 s v fp s' v' c fa put := by
  obtain ⟨w, fb, h1, h2, h3⟩ := h
  have keep : ∀ b ∈ fp, H1 b = H b := fun b hb => by
    obtain ⟨u, e⟩ := o.live b hb
    exact (sm b u e).trans e.symm
  exact ⟨w.mono x fun b hb => keep b ((h1 b).mpr (.inl hb)), fb, h1, h2, fun F' H' z fq f g w n => h3 F' H' z fq (x.trans f) (fun b hb => (g b hb).trans (keep b ((h1 b).mpr (.inr hb)))) w n⟩
/-- what an owning slot holds, in a heap that has grown -/
theorem Own.grow (o : Own K C H0 F H L σ ρ i s r (en a) v fp) (sm : Same H H1) (x : Ext F H F1) : Ow K C F1 H1 s v (en a) fp ∧ ∀ b ∈ fp, F1 b = none ∧ H1 b = H b :=
  ⟨o.ow.mono x.up fun b hb => by
    obtain ⟨u, e⟩ := o.ow.live b hb
    exact (sm b u e).trans e.symm, fun b hb => by
    obtain ⟨u, e⟩ := o.ow.live b hb
    exact ⟨x.out e (o.fre b hb).1, (sm b u e).trans e.symm⟩⟩
theorem Own.up {d : D} (o : Own K C H0 F H L σ ρ i s r d v fp) (sm : Same H H1) (x : Ext F H F1) (sb : Same F1 H1) : Own K C H0 F1 H1 L σ ρ i s r d v fp :=
  ⟨o.at_, o.rt, o.ow.mono x.up fun b hb => by
    obtain ⟨u, e⟩ := o.ow.live b hb
    exact (sm b u e).trans e.symm, fun b hb => by
    obtain ⟨u, e⟩ := o.ow.live b hb
    exact ⟨x.out e (o.fre b hb).1, (o.fre b hb).2⟩, fun F2 H2 F' H' s' d' fp' s1 x1 sb1 => o.put F2 H2 F' H' s' d' fp' (sm.trans s1) (x.trans sm x1) sb1, o.out.grow sm x sb⟩
/-- the part at the address p is another object now -/
theorem Own.mut {p : Addr} {ho : HO} {fq : List Addr} {H2 F2 : Hp} {z : γ} (o : Own K C H0 F H L σ ρ i s r (en a) v fp) (s1 : Same H H1) (x1 : Ext F H F1) (sb1 : Same F1 H1) (f : Foc K C F1 H1 s v fp s' (.ref p) c (p :: fa) put)
    (s2 : Same H1 H2) (x2 : Ext F1 H1 F2) (sb2 : Same F2 H2) (w : Ow K C F2 (upd H2 p ho) s' (.ref p) (en z) fq) (k0 : Same F H) (hq : ∀ b ∈ fq, b = p ∨ b ∈ fa ∨ (H b = none ∧ F2 b = none)) : EnvS K C H0 F2 (upd H2 p ho) L σ (se ρ i (.vl (.ow s r) (en (put z)))) := by
  obtain ⟨w0, fb, h1, h2, h3⟩ := f
  obtain ⟨og, on⟩ := o.grow s1 x1
  have s12 := s1.trans s2
  have x12 := x1.trans s1 x2
  have pin : p ∈ fp := (h1 p).mpr (.inl List.mem_cons_self)
  have keep : ∀ b ∈ fb, upd H2 p ho b = H1 b := fun b hb => by
    have ne : b ≠ p := fun e => h2 p List.mem_cons_self (e ▸ hb)
    rw [upd_ne ne]
    obtain ⟨u, e⟩ := og.live b ((h1 b).mpr (.inr hb))
    exact (s2 b u e).trans e.symm
  have q2 : ∀ b ∈ fq, b ∉ fb := fun b hb hc => by
    rcases hq b hb with e | e | e
    · exact h2 p List.mem_cons_self (e ▸ hc)
    · exact h2 b (List.mem_cons_of_mem _ e) hc
    · obtain ⟨u, e'⟩ := o.ow.live b ((h1 b).mpr (.inr hc))
      rw [e'] at e; cases e.1
  obtain ⟨fr, r1, r2⟩ := h3 F2 (upd H2 p ho) z fq x2.up keep w q2
  have nF2 : ∀ b ∈ fp, F2 b = none := fun b hb => (o.grow s12 x12).2 b hb |>.1
  refine o.put F H F2 (upd H2 p ho) s (en (put z)) fr (Same.refl H) (Ext.refl F H) k0 (fun b u e => ?_) (fun b u e => ?_) ⟨x12.up, fun b u e => ?_⟩ r2 fun b hb => ?_
  · by_cases y : b ∈ fp
    · rw [hid_in y] at e; cases e
    · rw [hid_out y] at e
      rw [upd_ne (fun z => y (by rw [z]; exact pin))]
      exact s12 b u e
  · rw [upd_ne (fun z => by rw [z, nF2 p pin] at e; cases e)]
    exact sb2 b u e
  · refine (x12.new b u e).imp id fun n => ?_
    by_cases y : b ∈ fp
    · exact hid_in y
    · rw [hid_out y]; exact n
  · rcases (r1 b).mp hb with h | h
    · rcases hq b h with e | e | e
      · rw [e]; exact ⟨hid_in pin, nF2 p pin⟩
      · have := (h1 b).mpr (.inl (List.mem_cons_of_mem _ e))
        exact ⟨hid_in this, nF2 b this⟩
      · refine ⟨?_, e.2⟩
        by_cases y : b ∈ fp
        · exact hid_in y
        · rw [hid_out y]; exact e.1
    · have := (h1 b).mpr (.inr h)
      exact ⟨hid_in this, nF2 b this⟩
theorem Foc.ix {l : List δ} {put : List δ → α} {s2 : Sh} {k : Nat} {x : δ} (h : Foc K C F H s v fp (.lst s2) v' l fa put) (hk : l[k]? = some x) : ∃ p xs vc fc, v' = .ref p ∧ H p = some (.lst xs) ∧ xs[k]? = some vc ∧ Foc K C F H s v fp s2 vc x fc (fun z => put (l.set k z)) := by
  obtain ⟨w, fb, h1, h2, h3⟩ := h
  have w : Ow K C F H (.lst s2) v' (.list (l.map en)) fa := w
  cases w with
  | sc z _ => cases z
  | lst q1 q2 q3 =>
    rename_i p xs fx
    have e : (l.map en)[k]? = some (en x) := by rw [List.getElem?_map, hk]; rfl
    obtain ⟨vc, fc, fd, y1, y2, y3, y4, y5⟩ := q2.focus e
    refine ⟨p, xs, vc, fc, rfl, q1, y1, y2, p :: fd ++ fb, fun b => ?_, fun b hb hc => ?_, fun F' H' z fq f g w n => ?_⟩
    · simp only [h1, List.mem_append, List.mem_cons, y3]
      constructor
      · rintro ((h | h | h) | h)
        · exact .inr (.inl (.inl h))
        · exact .inl h
        · exact .inr (.inl (.inr h))
        · exact .inr (.inr h)
      · rintro (h | (h | h) | h)
        · exact .inl (.inr (.inl h))
        · exact .inl (.inl h)
        · exact .inl (.inr (.inr h))
        · exact .inr h
    · rcases List.mem_append.mp hc with hc | hc
      · rcases List.mem_cons.mp hc with e | hc
        · exact q3 ((y3 p).mpr (.inl (e ▸ hb)))
        · exact y4 b hb hc
      · exact h2 b (List.mem_cons_of_mem _ ((y3 b).mpr (.inl hb))) hc
    · obtain ⟨fr, r1, r2⟩ := y5 F' H' vc (en z) fq f (fun b hb => g b (List.mem_append.mpr (.inl (List.mem_cons_of_mem _ hb)))) w fun b hb hc => n b hb (List.mem_append.mpr (.inl (List.mem_cons_of_mem _ hc)))
      have e2 : xs.set k vc = xs := by
        apply List.ext_getElem?
        intro j
        by_cases hj : j = k
        · subst hj
          have hl := (List.getElem?_eq_some_iff.mp y1).1
          rw [List.getElem?_set_self hl, y1]
        · rw [List.getElem?_set_ne (Ne.symm hj)]
      rw [e2] at r2
      have e3 : (l.map en).set k (en z) = (l.set k z).map en := by rw [List.map_set]
      rw [e3] at r2
      have np : p ∉ fr := fun hp => by
        rcases (r1 p).mp hp with h | h
        · exact n p h (List.mem_append.mpr (.inl List.mem_cons_self))
        · exact q3 ((y3 p).mpr (.inr h))
      have w2 : Ow K C F' H' (.lst s2) (.ref p) (en (l.set k z)) (p :: fr) := .lst ((g p (List.mem_append.mpr (.inl List.mem_cons_self))).trans q1) r2 np
      obtain ⟨ft, t1, t2⟩ := h3 F' H' (l.set k z) (p :: fr) f (fun b hb => g b (List.mem_append.mpr (.inr hb))) w2 fun b hb hc => by
        rcases List.mem_cons.mp hb with e | hb
        · exact h2 p List.mem_cons_self (e ▸ hc)
        · rcases (r1 b).mp hb with h | h
          · exact n b h (List.mem_append.mpr (.inr hc))
          · exact h2 b (List.mem_cons_of_mem _ ((y3 b).mpr (.inr h))) hc
      refine ⟨ft, fun b => ?_, t2⟩
      simp only [t1, List.mem_append, List.mem_cons, r1]
      constructor
      · rintro ((h | h | h) | h)
        · exact .inr (.inl (.inl h))
        · exact .inl h
        · exact .inr (.inl (.inr h))
        · exact .inr (.inr h)
      · rintro (h | (h | h) | h)
        · exact .inl (.inr (.inl h))
        · exact .inl (.inl h)
        · exact .inl (.inr (.inr h))
        · exact .inr h
end
def ixP {δ : Type} (xs : List δ) (i : Int) : R (δ × (δ → List δ)) :=
  match ixAt xs.length i with
  | some k => (match xs[k]? with
    | some x => .ok (x, fun z => xs.set k z)
    | none => .no)
  | none => .no
section
variable {X : Cx} {W : Vp} {E : L2.St → XK} {ρ : Env} {s s' s2 : Sh} {e b : Expr} {pos : Pos} {i : Nat} {r : Option V} {α γ δ β : Type} [En α] [En γ] [En δ] {a : α} {out : β → Out} {st : Stmt} {rest : List Stmt}
theorem vp_v (h : PE X e (tVar i)) : VP X W E ρ i s r a s e (.ok (a, fun z => z)) := h.wk fun σ H Q ⟨H0, F, k, v, fp, o, q⟩ =>
  ⟨v, o.at_, okH q v fp H F (Same.refl H) (Ext.refl F H) k.sub (Foc.refl o.ow)⟩
theorem vp_ix {m : R (List δ × (List δ → α))} {n : R Int} (ha : VP X W E ρ i s r a (.lst s2) e m) (hb : VE X W E ρ .frz b n) (hs : PlainIx b) :
    VP X W E ρ i s r a s2 (.Subscript e b pos) (m.bind fun p => n.bind fun i => (ixP p.1 i).map fun q => (q.1, fun z => p.2 (q.2 z))) := (pe_ix ix_list ha hb hs).wk fun σ H Q ⟨H0, F, k, v, fp, o, q⟩ => by
  refine ⟨H0, F, k, v, fp, o, (hd_bind q).imp fun p q1 v' fa H1 F1 s1 x1 f1 foc => ?_⟩
  refine ⟨H0, F1, k.grow s1 x1 f1, ((hd_bind q1).heap s1).imp fun j q2 u H2 F2 fq s2' x2 f2 w2 _ => ?_⟩
  have ej : u = .int j := int_rp w2.toRp.2
  have q2 := hd_map q2
  unfold ixP at q2
  cases hk : ixAt p.1.length j with
  | none => rw [hk] at q2; exact q2.elim
  | some kx =>
    rw [hk] at q2
    simp only at q2
    cases hx : p.1[kx]? with
    | none => rw [hx] at q2; exact q2.elim
    | some x =>
      rw [hx] at q2
      obtain ⟨og, _⟩ := o.grow s1 x1
      have foc2 := foc.grow og x2.up s2'
      obtain ⟨pa, xs, vc, fc, e1, e2, e3, foc3⟩ := foc2.ix hx
      have wl : Ow X.K W.rc F2 H2 (.lst s2) v' (.list (p.1.map en)) fa := foc2.1
      have len : xs.length = p.1.length := by
        subst e1
        cases wl with
        | sc z _ => cases z
        | lst z1 z2 _ =>
          rw [e2] at z1; cases z1
          rw [z2.len, List.length_map]
      refine ⟨pa, xs, j, vc, e1, ej, SqL.of e2, ?_, ?_⟩
      · show (ixN xs.length j).bind (fun j => xs[j]?) = some vc
        have : ixN xs.length j = some kx := by rw [len]; exact hk
        rw [this]; exact e3
      · exact okH q2 vc fc H2 F2 (s1.trans s2') (x1.trans s1 x2) f2 foc3
/-! ### xs.append(e), xs[k] = e -/
theorem vb_app {mp : R (List δ × (List δ → α))} {me : R δ} {k : α → R β} (h : PS X st (tDrop (tBM X.K "list" rAppend (tP X.K W E X.N.length ρ i s r a (.lst s2) mp) (tCons (tE X.K W E X.N.length ρ s2 me) tNil)))) (hr : ∀ z : α, VB X W E (se ρ i (.vl (.ow s r) (en z))) rest (k z) out) (hi : ρ i = .vl (.ow s r) (en a) := by rfl) :
    VB X W E ρ (st :: rest) (mp.bind fun p => me.bind fun x => (appR p.1 x).bind fun c => k (p.2 c)) out := (pss_cons h (pss_any hr)).wk fun De σ H ⟨H0, F0, F, kk, x, q⟩ => by
  obtain ⟨v, fp, o⟩ := kk.own hi
  refine ⟨H0, F, kk, v, fp, o, ((hds_bind q).hd σ kk.same).imp fun p q1 v' fa H1 F1 s1 x1 f1 foc => ?_⟩
  have wl : Ow X.K W.rc F1 H1 (.lst s2) v' (.list (p.1.map en)) fa := foc.1
  cases wl with
  | sc z _ => cases z
  | lst z1 z2 z3 =>
    rename_i pa xs fx
    refine ⟨.inl ⟨rfl, xs, SqL.of z1⟩, H0, F1, kk.grow s1 x1 f1, ((hds_bind q1).hd σ (kk.same.trans s1)).imp fun y q2 u H2 F2 fq s2' x2 f2 w2 n2 => ?_⟩
    have l := z2.len
    rw [List.length_map] at l
    have q2 := hds_bind q2
    unfold appR at q2
    by_cases hz : p.1.length < big
    case neg => rw [if_neg hz] at q2; exact q2.elim
    rw [if_pos hz] at q2
    refine ⟨pa, xs, u, rfl, rfl, s2' _ _ z1, Nat.lt_of_lt_of_le (by omega) big_le, p.2 (p.1 ++ [y]), H0, F0, F2, ?_, x.trans kk.same (x1.trans s1 x2), q2⟩
    have keep : ∀ b ∈ fx, upd H2 pa (.lst (xs ++ [u])) b = H1 b := fun b hb => by
      rw [upd_ne (fun e => by rw [e] at hb; exact z3 hb)]
      obtain ⟨w, e⟩ := z2.live b hb
      exact (s2' b w e).trans e.symm
    have nq : ∀ b ∈ fq, b ≠ pa := fun b hb e => by
      have := (n2 b hb).1
      rw [e, z1] at this; cases this
    have w3 : Ow X.K W.rc F2 (upd H2 pa (.lst (xs ++ [u]))) s2 u (en y) fq := w2.mono (Same.refl F2) fun b hb => upd_ne (nq b hb)
    obtain ⟨fr, r1, r2⟩ := OwA.snoc w3 (z2.mono x2.up keep) fun b hb hc => by
      obtain ⟨w, e⟩ := z2.live b hb
      rw [(n2 b hc).1] at e; cases e
    have np : pa ∉ fr := fun hp => by
      rcases (r1 pa).mp hp with h | h
      · exact z3 h
      · exact nq pa h rfl
    refine o.mut (z := p.1 ++ [y]) (fq := pa :: fr) s1 x1 f1 foc s2' x2 f2 (.lst upd_same (by rw [List.map_append]; exact r2) np) kk.sub fun b hb => ?_
    rcases List.mem_cons.mp hb with e | hb
    · exact .inl e
    · rcases (r1 b).mp hb with h | h
      · exact .inr (.inl h)
      · exact .inr (.inr ⟨none_back s1 (n2 b h).1, (n2 b h).2⟩)
theorem vb_put {mp : R (List δ × (List δ → α))} {me : R δ} {mk : R Int} {k : α → R β} (h : PS X st (tAsg (tE X.K W E X.N.length ρ s2 me) (gSub (tP X.K W E X.N.length ρ i s r a (.lst s2) mp) (tE X.K W E X.N.length ρ .frz mk) rSetL))) (hr : ∀ z : α, VB X W E (se ρ i (.vl (.ow s r) (en z))) rest (k z) out) (hi : ρ i = .vl (.ow s r) (en a) := by rfl) :
    VB X W E ρ (st :: rest) (me.bind fun x => mp.bind fun p => mk.bind fun j => (putR p.1 j x).bind fun c => k (p.2 c)) out := (pss_cons h (pss_any hr)).wk fun De σ H ⟨H0, F0, F, kk, x, q⟩ => by
  obtain ⟨v, fp, o⟩ := kk.own hi
  refine ⟨H0, F, kk, ((hds_bind q).hd σ kk.same).imp fun y q0 u H1 F1 fq s1 x1 f1 w1 n1 => ?_⟩
  have k1 := kk.grow s1 x1 f1
  refine ⟨H0, F1, k1, v, fp, o.up s1 x1 f1, ((hds_bind q0).hd σ k1.same).imp fun p q1 v' fa H2 F2 s2' x2 f2 foc => ?_⟩
  have wl : Ow X.K W.rc F2 H2 (.lst s2) v' (.list (p.1.map en)) fa := foc.1
  cases wl with
  | sc z _ => cases z
  | lst z1 z2 z3 =>
    rename_i pa xs fx
    refine ⟨H0, F2, k1.grow s2' x2 f2, ((hds_bind q1).hd σ (k1.same.trans s2')).imp fun j q2 t H3 F3 _ s3 x3 f3 w3 _ => ?_⟩
    have ej : t = .int j := int_rp w3.toRp.2
    have l := z2.len
    rw [List.length_map] at l
    have q2 := hds_bind q2
    unfold putR at q2
    cases hk : ixAt p.1.length j with
    | none => rw [hk] at q2; exact q2.elim
    | some kx =>
      rw [hk] at q2
      have hkl : kx < p.1.length := by
        unfold ixAt at hk
        split at hk
        · split at hk
          · cases hk; omega
          · cases hk
        · split at hk
          · cases hk; omega
          · cases hk
      refine ⟨pa, xs, j, kx, rfl, ej, s3 _ _ z1, by rw [show ixN xs.length j = ixAt xs.length j from rfl, l]; exact hk, p.2 (p.1.set kx y), H0, F0, F3, ?_, x.trans kk.same ((x1.trans s1 x2).trans (s1.trans s2') x3), q2⟩
      have kmap : (p.1.map en)[kx]? = some (en p.1[kx]) := by rw [List.getElem?_map, List.getElem?_eq_getElem hkl]; rfl
      obtain ⟨vc, fc, fd, y1, y2, y3, y4, y5⟩ := z2.focus kmap
      have s12 := s1.trans s2'
      have s13 := s12.trans s3
      have x12 := x1.trans s1 x2
      have sub : ∀ b, b = pa ∨ b ∈ fx → b ∈ fp := fun b hb => by
        obtain ⟨_, fb, h1, _⟩ := foc
        refine (h1 b).mpr (.inl ?_)
        rcases hb with e | e
        · rw [e]; exact List.mem_cons_self
        · exact List.mem_cons_of_mem _ e
      have liv : ∀ b, b = pa ∨ b ∈ fx → ∃ w, H b = some w := fun b hb => o.ow.live b (sub b hb)
      have nq : ∀ b ∈ fq, b ≠ pa ∧ b ∉ fx := fun b hb => by
        refine ⟨fun e => ?_, fun e => ?_⟩
        · obtain ⟨w, e'⟩ := liv b (.inl e)
          rw [(n1 b hb).1] at e'; cases e'
        · obtain ⟨w, e'⟩ := liv b (.inr e)
          rw [(n1 b hb).1] at e'; cases e'
      have keep : ∀ b ∈ fx, upd H3 pa (.lst (xs.set kx u)) b = H2 b := fun b hb => by
        rw [upd_ne (fun e => by rw [e] at hb; exact z3 hb)]
        obtain ⟨w, e⟩ := z2.live b hb
        exact (s3 b w e).trans e.symm
      have w4 : Ow X.K W.rc F3 (upd H3 pa (.lst (xs.set kx u))) s2 u (en y) fq := w1.mono (x2.up.trans x3.up) fun b hb => by
        rw [upd_ne (nq b hb).1]
        obtain ⟨w, e⟩ := w1.live b hb
        exact (s3 _ _ (s2' b w e)).trans e.symm
      have nF : ∀ b ∈ fq, F3 b = none := fun b hb => by
        obtain ⟨w, e⟩ := w1.live b hb
        exact (x2.trans s2' x3).out e (n1 b hb).2
      obtain ⟨fr, r1, r2⟩ := y5 F3 (upd H3 pa (.lst (xs.set kx u))) u (en y) fq x3.up (fun b hb => keep b ((y3 b).mpr (.inr hb))) w4 fun b hb hc => (nq b hb).2 ((y3 b).mpr (.inr hc))
      have np : pa ∉ fr := fun hp => by
        rcases (r1 pa).mp hp with h | h
        · exact (nq pa h).1 rfl
        · exact z3 ((y3 pa).mpr (.inr h))
      refine o.mut (z := p.1.set kx y) (fq := pa :: fr) s12 x12 f2 foc s3 x3 f3 (.lst upd_same (by rw [List.map_set]; exact r2) np) kk.sub fun b hb => ?_
      rcases List.mem_cons.mp hb with e | hb
      · exact .inl e
      · rcases (r1 b).mp hb with h | h
        · exact .inr (.inr ⟨(n1 b h).1, nF b h⟩)
        · exact .inr (.inl ((y3 b).mpr (.inr h)))
end
end Tx

set_option Elab.async false
set_option linter.all false
set_option maxRecDepth 100000
set_option maxHeartbeats 4000000
/-! A13: the rules by kinds of values. -/
namespace Tx
open PySem L2 En EnL

theorem o2_catT {K : PySem.W.Frag} : OpD K (rCatT K) catTD := fun W E F H x y d1 d2 Q s r1 r2 m => by
  cases r1 with
  | @tup a xs ds h1 h2 =>
    cases r2 with
    | @tup b ys es h3 h4 =>
      have m : Hd E W H (if ds.length + es.length ≤ big ∧ ds ≠ [] ∧ es ≠ [] then R.ok (.tuple (ds ++ es)) else .no) (VPost K W F H Q) := m
      by_cases z : ds.length + es.length ≤ big ∧ ds ≠ [] ∧ es ≠ []
      · rw [if_pos z] at m
        have l1 := h2.len
        have l2 := h4.len
        have n1 : xs ≠ [] := fun e => by subst e; exact z.2.1 (List.eq_nil_of_length_eq_zero l1.symm)
        have n2 : ys ≠ [] := fun e => by subst e; exact z.2.2 (List.eq_nil_of_length_eq_zero l2.symm)
        exact ⟨a, b, xs, ys, rfl, rfl, sqt_mono s h1, sqt_mono s h3, n1, by rw [l1, l2]; exact Nat.le_trans z.1 big_le, fun e => (n2 e).elim, fun _ p hp =>
          m _ _ (upd F p (.tup (xs ++ ys))) (same_upd hp) (Ext.one hp s) (same_upd2 s) (.tup (SqT.of upd_same) ((h2.app h4).up (Ext.one hp s).up))⟩
      · rw [if_neg z] at m; exact False.elim m
    | _ => exact False.elim m
  | _ => cases r2 <;> exact False.elim m

/-! ### kinds that may be compared -/
class Lay (α : Type) [En α] where
  dp : Nat
  lay : ∀ a : α, (en a).canLay0 = true
  dep : ∀ a : α, (en a).depth ≤ dp
class LEq (α : Type) [En α] [DecidableEq α] extends Lay α where
  eqv : ∀ a b : α, PyData.eqv (en a) (en b) = decide (a = b)
theorem dec_b {p q : Prop} [Decidable p] [Decidable q] (h : p ↔ q) : decide p = decide q := by simp only [h]
theorem layAll {α : Type} [En α] [Lay α] : ∀ l : List α, PyData.canLayAll0 (l.map en) = true
  | [] => rfl
  | a :: r => by rw [List.map_cons, PyData.canLayAll0, Lay.lay a, layAll r]; rfl
theorem depAll {α : Type} [En α] [Lay α] : ∀ l : List α, PyData.depthAll (l.map en) ≤ Lay.dp α
  | [] => Nat.zero_le _
  | a :: r => by rw [List.map_cons, PyData.depthAll]; exact Nat.max_le.mpr ⟨Lay.dep a, depAll r⟩
theorem eqvAll_map {α : Type} [En α] [DecidableEq α] [LEq α] : ∀ l r : List α, PyData.eqvAll (l.map en) (r.map en) = decide (l = r)
  | [], [] => by simp [PyData.eqvAll]
  | [], b :: r => by simp [PyData.eqvAll]
  | a :: l, [] => by simp [PyData.eqvAll]
  | a :: l, b :: r => by
    rw [List.map_cons, List.map_cons, PyData.eqvAll, LEq.eqv, eqvAll_map l r, ← Bool.decide_and]
    exact dec_b (by simp)
instance : LEq Int where
  dp := 0
  lay := fun _ => rfl
  dep := fun _ => Nat.le_refl _
  eqv := fun a b => by show PyData.eqv (.int a) (.int b) = _; rw [PyData.eqv]; by_cases h : a = b <;> simp [h]
instance : LEq Bool where
  dp := 0
  lay := fun _ => rfl
  dep := fun _ => Nat.le_refl _
  eqv := fun a b => by show PyData.eqv (.bool a) (.bool b) = _; rw [PyData.eqv]; by_cases h : a = b <;> simp [h]
instance : LEq Unit where
  dp := 0
  lay := fun _ => rfl
  dep := fun _ => Nat.le_refl _
  eqv := fun a b => rfl
instance {α : Type} [En α] [DecidableEq α] [LEq α] : LEq (List α) where
  dp := Lay.dp α + 1
  lay := fun l => by show PyData.canLay0 (.list (l.map en)) = true; rw [PyData.canLay0]; exact layAll l
  dep := fun l => by show PyData.depth (.list (l.map en)) ≤ _; rw [PyData.depth]; exact Nat.succ_le_succ (depAll l)
  eqv := fun a b => by show PyData.eqv (.list (a.map en)) (.list (b.map en)) = _; rw [PyData.eqv]; exact eqvAll_map a b
instance {α : Type} [En α] [DecidableEq α] [LEq α] : LEq (Tu α) where
  dp := Lay.dp α + 1
  lay := fun l => by show PyData.canLay0 (.tuple (l.l.map en)) = true; rw [PyData.canLay0]; exact layAll l.l
  dep := fun l => by show PyData.depth (.tuple (l.l.map en)) ≤ _; rw [PyData.depth]; exact Nat.succ_le_succ (depAll l.l)
  eqv := fun a b => by
    show PyData.eqv (.tuple (a.l.map en)) (.tuple (b.l.map en)) = _
    rw [PyData.eqv, eqvAll_map a.l b.l]
    exact dec_b ⟨fun h => by cases a; cases b; cases h; rfl, fun h => by rw [h]⟩
instance {α β : Type} [En α] [En β] [DecidableEq α] [DecidableEq β] [LEq α] [LEq β] : LEq (α × β) where
  dp := max (Lay.dp α) (Lay.dp β) + 1
  lay := fun x => by show PyData.canLay0 (.tuple [en x.1, en x.2]) = true; simp [PyData.canLay0, PyData.canLayAll0, Lay.lay]
  dep := fun x => by
    show PyData.depth (.tuple [en x.1, en x.2]) ≤ _
    have h1 := Lay.dep x.1
    have h2 := Lay.dep x.2
    simp only [PyData.depth, PyData.depthAll]; omega
  eqv := fun x y => by
    show PyData.eqv (.tuple [en x.1, en x.2]) (.tuple [en y.1, en y.2]) = _
    simp only [PyData.eqv, PyData.eqvAll, LEq.eqv, Bool.and_true, ← Bool.decide_and]
    exact dec_b Prod.ext_iff.symm
instance {α β γ : Type} [En α] [En β] [En γ] [DecidableEq α] [DecidableEq β] [DecidableEq γ] [LEq α] [LEq β] [LEq γ] : LEq (T3 α β γ) where
  dp := max (Lay.dp α) (max (Lay.dp β) (Lay.dp γ)) + 1
  lay := fun x => by show PyData.canLay0 (.tuple [en x.a, en x.b, en x.c]) = true; simp [PyData.canLay0, PyData.canLayAll0, Lay.lay]
  dep := fun x => by
    show PyData.depth (.tuple [en x.a, en x.b, en x.c]) ≤ _
    have h1 := Lay.dep x.a
    have h2 := Lay.dep x.b
    have h3 := Lay.dep x.c
    simp only [PyData.depth, PyData.depthAll]; omega
  eqv := fun x y => by
    show PyData.eqv (.tuple [en x.a, en x.b, en x.c]) (.tuple [en y.a, en y.b, en y.c]) = _
    simp only [PyData.eqv, PyData.eqvAll, LEq.eqv, Bool.and_true, ← Bool.decide_and]
    exact dec_b ⟨fun ⟨h1, h2, h3⟩ => by cases x; cases y; cases h1; cases h2; cases h3; rfl, fun h => by rw [h]; exact ⟨rfl, rfl, rfl⟩⟩
instance {α β γ δ : Type} [En α] [En β] [En γ] [En δ] [DecidableEq α] [DecidableEq β] [DecidableEq γ] [DecidableEq δ] [LEq α] [LEq β] [LEq γ] [LEq δ] : LEq (T4 α β γ δ) where
  dp := max (Lay.dp α) (max (Lay.dp β) (max (Lay.dp γ) (Lay.dp δ))) + 1
  lay := fun x => by show PyData.canLay0 (.tuple [en x.a, en x.b, en x.c, en x.d]) = true; simp [PyData.canLay0, PyData.canLayAll0, Lay.lay]
  dep := fun x => by
    show PyData.depth (.tuple [en x.a, en x.b, en x.c, en x.d]) ≤ _
    have h1 := Lay.dep x.a
    have h2 := Lay.dep x.b
    have h3 := Lay.dep x.c
    have h4 := Lay.dep x.d
    simp only [PyData.depth, PyData.depthAll]; omega
  eqv := fun x y => by
    show PyData.eqv (.tuple [en x.a, en x.b, en x.c, en x.d]) (.tuple [en y.a, en y.b, en y.c, en y.d]) = _
    simp only [PyData.eqv, PyData.eqvAll, LEq.eqv, Bool.and_true, ← Bool.decide_and]
    exact dec_b ⟨fun ⟨h1, h2, h3, h4⟩ => by cases x; cases y; cases h1; cases h2; cases h3; cases h4; rfl, fun h => by rw [h]; exact ⟨rfl, rfl, rfl, rfl⟩⟩
theorem okD_en {α : Type} [En α] [Lay α] (hd : Lay.dp α ≤ 64) (a : α) : okD (en a) = true := by
  unfold okD
  rw [Lay.lay a, decide_eq_true (Nat.le_trans (Lay.dep a) hd)]; rfl
theorem eqD_en {α : Type} [En α] [DecidableEq α] [LEq α] (hd : Lay.dp α ≤ 64) (a b : α) : eqD (en a) (en b) = .ok (decide (a = b)) := by
  have h := LEq.eqv a b
  have h1 := okD_en hd a
  have h2 := okD_en hd b
  unfold eqD
  split
  · rename_i x y e1 e2
    rw [e1, e2, PyData.eqv] at h
    rw [← h]
    by_cases z : x = y <;> simp [z]
  · rw [h1, h2, h]; rfl

/-! ### what is compared, by kinds -/
def cLt (x y : Int) : R Bool := .ok (decide (x < y))
def cLe (x y : Int) : R Bool := .ok (decide (x ≤ y))
def cGt (x y : Int) : R Bool := .ok (decide (y < x))
def cGe (x y : Int) : R Bool := .ok (decide (y ≤ x))
theorem hLt (x y : Int) : ltD (en x) (en y) = (cLt x y).map en := rfl
theorem hLe (x y : Int) : leD (en x) (en y) = (cLe x y).map en := rfl
theorem hGt (x y : Int) : gtD (en x) (en y) = (cGt x y).map en := rfl
theorem hGe (x y : Int) : geD (en x) (en y) = (cGe x y).map en := rfl
section
variable {α β : Type} [En α] [En β]
def cEqR (x : α) (y : β) : R Bool := eqD (en x) (en y)
def cNeR (x : α) (y : β) : R Bool := (eqD (en x) (en y)).map fun b => !b
theorem hEqR (x : α) (y : β) : eqV2 (en x) (en y) = (cEqR x y).map en := rfl
theorem hNeR (x : α) (y : β) : neV2 (en x) (en y) = (cNeR x y).map en := by
  unfold cNeR neV2
  rw [R.map_map]; rfl
def cEq [DecidableEq α] (x y : α) : R Bool := .ok (decide (x = y))
def cNe [DecidableEq α] (x y : α) : R Bool := .ok (decide (x ≠ y))
theorem hEq [DecidableEq α] [LEq α] (hd : Lay.dp α ≤ 64 := by decide) (x y : α) : eqV2 (en x) (en y) = (cEq x y).map en := by
  unfold eqV2; rw [eqD_en hd]; rfl
theorem hNe [DecidableEq α] [LEq α] (hd : Lay.dp α ≤ 64 := by decide) (x y : α) : neV2 (en x) (en y) = (cNe x y).map en := by
  unfold neV2; rw [eqD_en hd]
  show R.ok (PyData.bool _) = R.ok (PyData.bool _)
  by_cases h : x = y <;> simp [h]
def cEqS (x y : Str) : R Bool := .ok (decide (x = y))
def cNeS (x y : Str) : R Bool := .ok (decide (x ≠ y))
theorem hEqS (x y : Str) : eqV2 (en x) (en y) = (cEqS x y).map en := rfl
theorem hNeS (x y : Str) : neV2 (en x) (en y) = (cNeS x y).map en := by
  show R.ok (PyData.bool _) = R.ok (PyData.bool _)
  by_cases h : x = y <;> simp [h]
/-- data that is not None -/
class NN (α : Type) [En α] : Prop where
  nn : ∀ a : α, en a ≠ .none
instance : NN Int := ⟨fun _ h => by cases h⟩
instance : NN Bool := ⟨fun _ h => by cases h⟩
instance : NN (List α) := ⟨fun _ h => by cases h⟩
instance : NN (Tu α) := ⟨fun _ h => by cases h⟩
instance : NN (α × β) := ⟨fun _ h => by cases h⟩
instance {γ : Type} [En γ] : NN (T3 α β γ) := ⟨fun _ h => by cases h⟩
def cIsN (x : Option α) (_ : Unit) : R Bool := .ok x.isNone
def cIsS (x : Option α) (_ : Unit) : R Bool := .ok x.isSome
theorem hIsN [NN α] (x : Option α) (y : Unit) : isNoneD (en x) (en y) = (cIsN x y).map en := by
  cases x with
  | none => rfl
  | some a =>
    have h := NN.nn a
    show isNoneD (en a) .none = .ok (.bool false)
    generalize en a = d at h
    cases d <;> first | rfl | (exact (h rfl).elim)
theorem hIsS [NN α] (x : Option α) (y : Unit) : isNotNoneD (en x) (en y) = (cIsS x y).map en := by
  cases x with
  | none => rfl
  | some a =>
    have h := NN.nn a
    show isNotNoneD (en a) .none = .ok (.bool true)
    generalize en a = d at h
    cases d <;> first | rfl | (exact (h rfl).elim)
/-- in a list -/
def inLD (x : D) : D → R D
  | .list ds => if okD x && okD (.list ds) then .ok (.bool (ds.any fun z => PyData.eqv z x)) else .no
  | _ => .no
def niLD (x : D) : D → R D
  | .list ds => if okD x && okD (.list ds) then .ok (.bool (!ds.any fun z => PyData.eqv z x)) else .no
  | _ => .no
theorem o2_inL {K : PySem.W.Frag} : OpD K (rInD K) inLD := fun W E F H x y d1 d2 Q s r1 r2 m => by
  cases r2 with
  | @lst a xs ds h1 h2 =>
    have m : Hd E W H (if (okD d1 && okD (.list ds)) = true then R.ok (.bool (ds.any fun z => PyData.eqv z d1)) else .no) (VPost K W F H Q) := m
    by_cases z : (okD d1 && okD (.list ds)) = true
    · rw [if_pos z] at m
      simp only [Bool.and_eq_true] at z
      exact ⟨d1, ds, (r1.up s).dp _ _ (okD_l z.1), (Rp.up (.lst h1 h2) s).dp _ _ (okD_l z.2), z.1, z.2, m _ H F (Same.refl H) (Ext.refl F H) s (.bl _)⟩
    · rw [if_neg z] at m; exact m.elim
  | _ => exact m.elim
theorem o2_niL {K : PySem.W.Frag} : OpD K (rNotInD K) niLD := fun W E F H x y d1 d2 Q s r1 r2 m => by
  cases r2 with
  | @lst a xs ds h1 h2 =>
    have m : Hd E W H (if (okD d1 && okD (.list ds)) = true then R.ok (.bool (!ds.any fun z => PyData.eqv z d1)) else .no) (VPost K W F H Q) := m
    by_cases z : (okD d1 && okD (.list ds)) = true
    · rw [if_pos z] at m
      simp only [Bool.and_eq_true] at z
      exact ⟨d1, ds, (r1.up s).dp _ _ (okD_l z.1), (Rp.up (.lst h1 h2) s).dp _ _ (okD_l z.2), z.1, z.2, m _ H F (Same.refl H) (Ext.refl F H) s (.bl _)⟩
    · rw [if_neg z] at m; exact m.elim
  | _ => exact m.elim
def cIn [DecidableEq α] (x : α) (l : List α) : R Bool := .ok (decide (x ∈ l))
def cNi [DecidableEq α] (x : α) (l : List α) : R Bool := .ok (decide (x ∉ l))
theorem any_eqv [DecidableEq α] [LEq α] (x : α) : ∀ l : List α, ((l.map en).any fun z => PyData.eqv z (en x)) = decide (x ∈ l)
  | [] => rfl
  | y :: r => by
    rw [List.map_cons, List.any_cons, LEq.eqv, any_eqv x r, ← Bool.decide_or]
    exact dec_b (by simp [eq_comm])
theorem hIn [DecidableEq α] [LEq α] (hd : Lay.dp (List α) ≤ 64 := by decide) (x : α) (l : List α) : inLD (en x) (en l) = (cIn x l).map en := by
  have h1 : okD (en x) = true := okD_en (Nat.le_trans (Nat.le_succ _) hd) x
  have h2 : okD (.list (l.map en)) = true := okD_en hd l
  show (if (okD (en x) && okD (.list (l.map en))) = true then R.ok (PyData.bool ((l.map en).any fun z => PyData.eqv z (en x))) else .no) = _
  rw [h1, h2, any_eqv]; rfl
theorem hNi [DecidableEq α] [LEq α] (hd : Lay.dp (List α) ≤ 64 := by decide) (x : α) (l : List α) : niLD (en x) (en l) = (cNi x l).map en := by
  have h1 : okD (en x) = true := okD_en (Nat.le_trans (Nat.le_succ _) hd) x
  have h2 : okD (.list (l.map en)) = true := okD_en hd l
  show (if (okD (en x) && okD (.list (l.map en))) = true then R.ok (PyData.bool (!(l.map en).any fun z => PyData.eqv z (en x))) else .no) = _
  rw [h1, h2, any_eqv]
  show R.ok (PyData.bool _) = R.ok (PyData.bool _)
  by_cases h : x ∈ l <;> simp [h]
/-- flat data -/
class Fl (α : Type) [En α] [DecidableEq α] : Prop where
  fl : ∀ a : α, flatD (en a) = true
  eq : ∀ a b : α, eqF (en a) (en b) = decide (a = b)
instance : Fl Int := ⟨fun _ => rfl, fun a b => by show (a == b) = _; by_cases h : a = b <;> simp [h]⟩
instance : Fl Str := ⟨fun _ => rfl, fun a b => rfl⟩
def cInT [DecidableEq α] (x : α) (l : Tu α) : R Bool := .ok (decide (x ∈ l.l))
def cNiT [DecidableEq α] (x : α) (l : Tu α) : R Bool := .ok (decide (x ∉ l.l))
theorem any_eqF [DecidableEq α] [Fl α] (x : α) : ∀ l : List α, ((l.map en).any fun z => eqF z (en x)) = decide (x ∈ l)
  | [] => rfl
  | y :: r => by
    rw [List.map_cons, List.any_cons, Fl.eq, any_eqF x r, ← Bool.decide_or]
    exact dec_b (by simp [eq_comm])
theorem all_flat [DecidableEq α] [Fl α] : ∀ l : List α, (l.map en).all flatD = true
  | [] => rfl
  | y :: r => by rw [List.map_cons, List.all_cons, Fl.fl, all_flat r]; rfl
theorem hInT [DecidableEq α] [Fl α] (x : α) (l : Tu α) : inD (en x) (en l) = (cInT x l).map en := by
  show (if (flatD (en x) && (l.l.map en).all flatD) = true then R.ok (PyData.bool ((l.l.map en).any fun y => eqF y (en x))) else .no) = _
  rw [Fl.fl, all_flat, any_eqF]; rfl
theorem hNiT [DecidableEq α] [Fl α] (x : α) (l : Tu α) : notInD (en x) (en l) = (cNiT x l).map en := by
  show (if (flatD (en x) && (l.l.map en).all flatD) = true then R.ok (PyData.bool (!(l.l.map en).any fun y => eqF y (en x))) else .no) = _
  rw [Fl.fl, all_flat, any_eqF]
  show R.ok (PyData.bool _) = R.ok (PyData.bool _)
  by_cases h : x ∈ l.l <;> simp [h]
/-! ### items -/
theorem ixR_map (f : α → D) (xs : List α) (i : Int) : ixR (xs.map f) i = (ixR xs i).map f := by
  unfold ixR
  rw [List.length_map]
  cases ixAt xs.length i with
  | none => rfl
  | some k =>
    simp only [List.getElem?_map]
    cases xs[k]? <;> rfl
theorem hIxL (xs : List α) (i : Int) : ixD (en xs) (en i) = (ixR xs i).map en := ixR_map en xs i
theorem hIxT (xs : Tu α) (i : Int) : ixD (en xs) (en i) = (ixR xs.l i).map en := ixR_map en xs.l i
end
section
variable {X : Cx} {W : Vp} {E : L2.St → XK} {ρ : Env} {s : Sh} {e a b c : Expr} {es rest : List Expr} {pos : Pos}
variable {α β γ : Type} [En α] [En β] [En γ]
theorem te_add {m n : R Int} (ha : VE X W E ρ .frz a m) (hb : VE X W E ρ .frz b n) : VE X W E ρ .frz (.BinOp a .Add b pos) (m.bind fun x => n.bind fun y => .ok (x + y)) := ve_op op_add o2_add (fun x y => .ok (x + y)) (fun _ _ => rfl) ha hb
theorem te_sub {m n : R Int} (ha : VE X W E ρ .frz a m) (hb : VE X W E ρ .frz b n) : VE X W E ρ .frz (.BinOp a .Sub b pos) (m.bind fun x => n.bind fun y => .ok (x - y)) := ve_op op_sub o2_sub (fun x y => .ok (x - y)) (fun _ _ => rfl) ha hb
theorem te_mul {m n : R Int} (ha : VE X W E ρ .frz a m) (hb : VE X W E ρ .frz b n) : VE X W E ρ .frz (.BinOp a .Mult b pos) (m.bind fun x => n.bind fun y => mulR x y) := ve_op op_mulB o2_mul mulR (fun _ _ => rfl) ha hb
theorem te_div {m n : R Int} (ha : VE X W E ρ .frz a m) (hb : VE X W E ρ .frz b n) : VE X W E ρ .frz (.BinOp a .FloorDiv b pos) (m.bind fun x => n.bind fun y => divR x y) := ve_op op_divB o2_div divR (fun _ _ => rfl) ha hb
theorem te_mod {m n : R Int} (ha : VE X W E ρ .frz a m) (hb : VE X W E ρ .frz b n) : VE X W E ρ .frz (.BinOp a .Mod b pos) (m.bind fun x => n.bind fun y => modR x y) := ve_op op_modN o2_mod modR (fun _ _ => rfl) ha hb
theorem te_pow {m n : R Int} (ha : VE X W E ρ .frz a m) (hb : VE X W E ρ .frz b n) : VE X W E ρ .frz (.BinOp a .Pow b pos) (m.bind fun x => n.bind fun y => powR x y) := ve_op op_pow o2_pow powR (fun _ _ => rfl) ha hb
theorem te_neg {m : R Int} (ha : VE X W E ρ .frz a m) : VE X W E ρ .frz (.UnaryOp .USub a pos) (m.map fun x => -x) := by
  have h := ve_un1 (pos := pos) un_neg o1_neg (fun x : Int => .ok (-x)) (fun _ => rfl) ha
  have q : (m.bind fun x => R.ok (-x)) = m.map fun x => -x := by cases m <;> rfl
  exact ve_eq h q
theorem te_cat {m n : R (List α)} (ha : VE X W E ρ .frz a m) (hb : VE X W E ρ .frz b n) : VE X W E ρ (.lst .frz) (.BinOp a .Add b pos) (m.bind fun x => n.bind fun y => catR x y) := vn_op op_catR on_cat catR (fun x y => by
  show (if (x.map en).length + (y.map en).length ≤ big then R.ok (PyData.list (x.map en ++ y.map en)) else .no) = (catR x y).map en
  unfold catR
  rw [List.length_map, List.length_map]
  split
  · show _ = R.ok (PyData.list ((x ++ y).map en))
    rw [List.map_append]
  · rfl) ha hb
theorem te_rep {m : R (List α)} {n : R Int} (ha : VE X W E ρ .frz a m) (hb : VE X W E ρ .frz b n) : VE X W E ρ (.lst .frz) (.BinOp a .Mult b pos) (m.bind fun x => n.bind fun y => repR x y) := vn_op op_repR on_rep repR (fun x k => by
  show (if -(2 ^ 63) ≤ k ∧ k < 2 ^ 63 ∧ (x.map en).length * k.toNat ≤ big then R.ok (PyData.list (List.replicate k.toNat (x.map en)).flatten) else .no) = (repR x k).map en
  unfold repR
  rw [List.length_map]
  split
  · show _ = R.ok (PyData.list ((List.replicate k.toNat x).flatten.map en))
    rw [List.map_flatten, List.map_replicate]
  · rfl) ha hb
theorem te_ixL {m : R (List α)} {n : R Int} (ha : VE X W E ρ .frz a m) (hb : VE X W E ρ .frz b n) (hs : PlainIx b := by exact fun _ _ => rfl) : VE X W E ρ .frz (.Subscript a b pos) (m.bind fun x => n.bind fun y => ixR x y) := ve_ix ix_seq o2_ix ixR hIxL ha hb hs
theorem te_ixT {m : R (Tu α)} {n : R Int} (ha : VE X W E ρ .frz a m) (hb : VE X W E ρ .frz b n) (hs : PlainIx b := by exact fun _ _ => rfl) : VE X W E ρ .frz (.Subscript a b pos) (m.bind fun x => n.bind fun y => ixR x.l y) := ve_ix ix_seq o2_ix (fun x y => ixR x.l y) hIxT ha hb hs
/-- the part of a tuple at a written place -/
theorem te_prj {m : R α} {i : Int} (f : α → β) (ha : VE X W E ρ .frz a m) (hb : VE X W E ρ .frz b (.ok i)) (hf : ∀ x, ixD (en x) (.int i) = .ok (en (f x)) := by intro _; rfl) (hs : PlainIx b := by exact fun _ _ => rfl) : VE X W E ρ .frz (.Subscript a b pos) (m.map f) :=
  (pe_ix ix_seq ha hb hs).wk fun σ H Q ⟨H0, F, k, q⟩ => ⟨H0, F, k, (hd_map q).imp fun d1 q1 v H1 F1 fp s1 x1 f1 w1 _ => ⟨H0, F1, k.grow s1 x1 f1, fun u H2 F2 fq s2 x2 f2 w2 _ => by
    refine o2_ix W (E σ) F2 H2 v u (en d1) (.int i) Q f2 (w1.toRp.2.up x2.up) w2.toRp.2 ?_
    rw [hf]
    exact (q1.step (s1.trans s2) (x1.trans s1 x2)).vp⟩⟩
theorem te_catT {m : R α} {n : R β} (f : α → β → γ) (ha : VE X W E ρ .frz a m) (hb : VE X W E ρ .frz b n) (hf : ∀ x y, catTD (en x) (en y) = .ok (en (f x y))) : VE X W E ρ .frz (.BinOp a .Add b pos) (m.bind fun x => n.bind fun y => .ok (f x y)) := ve_op op_catT o2_catT (fun x y => .ok (f x y)) hf ha hb
end
end Tx

set_option Elab.async false
set_option linter.all false
set_option maxRecDepth 100000
set_option maxHeartbeats 4000000
/-! A14: chains of comparisons; built-ins by kinds. -/
namespace Tx
open PySem L2 PyProof.Rows En EnL
section
variable {X : Cx}
structure PChV (X : Cx) (ops : List CmpOp) (es : List Expr) (t : V → TE) : Prop where
  run : ∀ (pos : Pos) (pins : List (Addr × Obj)) (s : Shared) (σ : L2.St) (H : Hp) (y : V) (u : Value) (Q : VK), Inv X pins σ H s → RelV y u → t y σ H Q → wpAny (model X.prog X.w) X.A (compareChain pos u ops (evalEach es X.env)) (EP X pins σ Q) X.xe s
structure PChT (X : Cx) (ops : List CmpOp) (es : List Expr) (t : V → TE) : Prop where
  run : ∀ (pos : Pos) (pins : List (Addr × Obj)) (s : Shared) (σ : L2.St) (H : Hp) (y : V) (u : Value) (Q : Bool → Hp → Prop), Inv X pins σ H s → RelV y u → t y σ H (fun z H' => ∃ k, z = .bl k ∧ Q k H') → wpAny (model X.prog X.w) X.A (testChain pos u ops (evalEach es X.env)) (TP X pins σ Q) X.xe s
def tChL (r : R2) (tb : TE) : V → TE := fun x σ H Q => tb σ H fun y H1 => r x y H1 Q
def tChK (r : R2) (tb : TE) (t : V → TE) : V → TE := fun x σ H Q => tb σ H fun y H1 => r x y H1 fun z H2 => ∃ k, z = .bl k ∧ if k = true then t y σ H2 Q else Q (.bl false) H2
variable {op op' : CmpOp} {ops : List CmpOp} {b c a : Expr} {es : List Expr} {r : R2} {tb ta : TE} {t : V → TE} {pos : Pos}
theorem chv_last (ho : OpR X (compareOp op) r) (hb : PE X b tb) : PChV X [op] [b] (tChL r tb) := ⟨fun pos pins s σ H y u Q I ry h =>
  chain_last (thn (hb.run pins s σ H _ I h) fun w s1 ⟨z, H1, I1, rz, q⟩ => ho pins s1 σ H1 y z u w Q I1 ry rz q)⟩
theorem cht_last (ho : OpR X (compareOp op) r) (hb : PE X b tb) : PChT X [op] [b] (tChL r tb) := ⟨fun pos pins s σ H y u Q I ry h =>
  test_last (thn (hb.run pins s σ H _ I h) fun w s1 ⟨z, H1, I1, rz, q⟩ => thn (ho pins s1 σ H1 y z u w _ I1 ry rz q) fun v s2 ⟨v', H2, I2, r2, k, e, q2⟩ => by
    subst e; cases r2
    exact wpAny_truthy_bool ⟨H2, I2, q2⟩)⟩
theorem chv_link (ho : OpR X (compareOp op) r) (hb : PE X b tb) (ht : PChV X (op' :: ops) (c :: es) t) : PChV X (op :: op' :: ops) (b :: c :: es) (tChK r tb t) := ⟨fun pos pins s σ H y u Q I ry h =>
  chain_link (thn (hb.run pins s σ H _ I h) fun w s1 ⟨z, H1, I1, rz, q⟩ => thn (ho pins s1 σ H1 y z u w _ I1 ry rz q) fun v s2 ⟨v', H2, I2, r2, k, e, q2⟩ => by
    subst e; cases r2
    refine wpAny_truthy_bool ?_
    cases k with
    | true => exact ht.run pos pins s2 σ H2 z w Q I2 rz q2
    | false => exact ⟨.bl false, H2, I2, rfl, q2⟩)⟩
theorem cht_link (ho : OpR X (compareOp op) r) (hb : PE X b tb) (ht : PChT X (op' :: ops) (c :: es) t) : PChT X (op :: op' :: ops) (b :: c :: es) (tChK r tb t) := ⟨fun pos pins s σ H y u Q I ry h =>
  test_link (thn (hb.run pins s σ H _ I h) fun w s1 ⟨z, H1, I1, rz, q⟩ => thn (ho pins s1 σ H1 y z u w _ I1 ry rz q) fun v s2 ⟨v', H2, I2, r2, k, e, q2⟩ => by
    subst e; cases r2
    refine wpAny_truthy_bool ?_
    cases k with
    | true => exact ht.run pos pins s2 σ H2 z w Q I2 rz q2
    | false =>
      obtain ⟨k', e', q'⟩ := q2
      cases e'
      exact ⟨H2, I2, q'⟩)⟩
variable {op1 : CmpOp}
theorem pe_chN (ha : PE X a ta) (ht : PChV X (op :: op1 :: ops) (b :: c :: es) t) (hm : lastMarks (op :: op1 :: ops) (b :: c :: es) = false := by with_unfolding_all rfl) : PE X (.Compare a (op :: op1 :: ops) (b :: c :: es) pos) (fun σ H Q => ta σ H fun x H1 => t x σ H1 Q) := ⟨fun pins s σ H Q I h =>
  Compare_chain (thn (ha.run pins s σ H _ I h) fun w s1 ⟨z, H1, I1, rz, q⟩ => ht.run pos pins s1 σ H1 z w Q I1 rz q) hm⟩
theorem pt_chN (ha : PE X a ta) (ht : PChT X (op :: op1 :: ops) (b :: c :: es) t) (hm : lastMarks (op :: op1 :: ops) (b :: c :: es) = false := by with_unfolding_all rfl) : PT X (.Compare a (op :: op1 :: ops) (b :: c :: es) pos) (fun σ H Q => ta σ H fun x H1 => t x σ H1 (fun z H' => ∃ k, z = .bl k ∧ Q k H')) := ⟨fun pins s σ H Q I h =>
  isTrue_chain (thn (ha.run pins s σ H _ I h) fun w s1 ⟨z, H1, I1, rz, q⟩ => ht.run pos pins s1 σ H1 z w Q I1 rz q) hm⟩
end


/-! ### .. by data -/
def tCh {α : Type} [En α] (K : PySem.W.Frag) (W : Vp) (E : L2.St → XK) (L : Nat) (ρ : Env) (m : α → R Bool) : V → TE := fun v σ H Q => ∃ H0 F a, EnvS K W.rc H0 F H L σ ρ ∧ Rp K W.rc F v (en a) ∧ Hd (E σ) W H (m a) fun b => Post K W F H .frz Q (en b)
abbrev VCh {α : Type} [En α] (X : Cx) (W : Vp) (E : L2.St → XK) (ρ : Env) (ops : List CmpOp) (es : List Expr) (m : α → R Bool) : Prop := PChV X ops es (tCh X.K W E X.N.length ρ m)
abbrev VChT {α : Type} [En α] (X : Cx) (W : Vp) (E : L2.St → XK) (ρ : Env) (ops : List CmpOp) (es : List Expr) (m : α → R Bool) : Prop := PChT X ops es (tCh X.K W E X.N.length ρ m)
theorem PChV.wk {X : Cx} {ops : List CmpOp} {es : List Expr} {t t' : V → TE} (h : PChV X ops es t) (i : ∀ v σ H Q, t' v σ H Q → t v σ H Q) : PChV X ops es t' := ⟨fun p pins s σ H y u Q I r q => h.run p pins s σ H y u Q I r (i y σ H Q q)⟩
theorem PChT.wk {X : Cx} {ops : List CmpOp} {es : List Expr} {t t' : V → TE} (h : PChT X ops es t) (i : ∀ v σ H Q, t' v σ H Q → t v σ H Q) : PChT X ops es t' := ⟨fun p pins s σ H y u Q I r q => h.run p pins s σ H y u Q I r (i y σ H _ q)⟩
section
variable {X : Cx} {W : Vp} {E : L2.St → XK} {ρ : Env} {op op' op1 : CmpOp} {ops : List CmpOp} {a b c : Expr} {es : List Expr} {r : R2} {f : D → D → R D} {pos : Pos} {α β : Type} [En α] [En β] {m : R α} {n : R β} {g : α → β → R Bool} {u : β → R Bool}
theorem chL_read {K : PySem.W.Frag} {L : Nat} (od : OpD K r f) (hf : ∀ x y, f (en x) (en y) = (g x y).map en) (v : V) (σ : L2.St) (H : Hp) (Q : VK) (h : tCh K W E L ρ (fun x => n.bind fun y => g x y) v σ H Q) : tChL r (tE K W E L ρ .frz n) v σ H Q := by
  obtain ⟨H0, F, x, k, rv, m⟩ := h
  refine ⟨H0, F, k, (hd_bind m).imp fun y m1 w H1 F1 fp s1 x1 f1 w1 _ => od W (E σ) F1 H1 v w (en x) (en y) Q f1 (rv.up x1.up) w1.toRp.2 ?_⟩
  rw [hf]
  exact hd_unmap ((m1.heap s1).imp fun z q => (q.step s1 x1).vp)
theorem chK_read {K : PySem.W.Frag} {L : Nat} (od : OpD K r f) (hf : ∀ x y, f (en x) (en y) = (g x y).map en) (v : V) (σ : L2.St) (H : Hp) (Q : VK) (h : tCh K W E L ρ (fun x => n.bind fun y => andR (g x y) (u y)) v σ H Q) : tChK r (tE K W E L ρ .frz n) (tCh K W E L ρ u) v σ H Q := by
  obtain ⟨H0, F, x, k, rv, m⟩ := h
  refine ⟨H0, F, k, (hd_bind m).imp fun y m1 w H1 F1 fp s1 x1 f1 w1 _ => od W (E σ) F1 H1 v w (en x) (en y) _ f1 (rv.up x1.up) w1.toRp.2 ?_⟩
  rw [hf]
  refine hd_unmap (((hd_bind m1).heap s1).imp fun z q y2 H2 F2 s2 x2 f2 r2 => ?_)
  refine ⟨z, bool_rp r2, ?_⟩
  cases z with
  | true =>
    show tCh K W E L ρ u w σ H2 Q
    exact ⟨H0, F2, y, (k.grow s1 x1 f1).grow s2 x2 f2, w1.toRp.2.up x2.up, (Hd.heap (r := u y) q (s1.trans s2)).imp fun z k => k.step (s1.trans s2) (x1.trans s1 x2)⟩
  | false => exact okH q (.bl false) H2 F2 [] (s1.trans s2) (x1.trans s1 x2) f2 (.fz (.bl false)) fun x hx => nomatch hx
theorem vc_last (ho : OpR X (compareOp op) r) (od : OpD X.K r f) (g : α → β → R Bool) (hf : ∀ x y, f (en x) (en y) = (g x y).map en) (hb : VE X W E ρ .frz b n) : VCh X W E ρ [op] [b] (fun x => n.bind fun y => g x y) := (chv_last ho hb).wk (chL_read od hf)
theorem vct_last (ho : OpR X (compareOp op) r) (od : OpD X.K r f) (g : α → β → R Bool) (hf : ∀ x y, f (en x) (en y) = (g x y).map en) (hb : VE X W E ρ .frz b n) : VChT X W E ρ [op] [b] (fun x => n.bind fun y => g x y) := (cht_last ho hb).wk (chL_read od hf)
theorem vc_link (ho : OpR X (compareOp op) r) (od : OpD X.K r f) (g : α → β → R Bool) (hf : ∀ x y, f (en x) (en y) = (g x y).map en) (hb : VE X W E ρ .frz b n) (ht : VCh X W E ρ (op' :: ops) (c :: es) u) : VCh X W E ρ (op :: op' :: ops) (b :: c :: es) (fun x => n.bind fun y => andR (g x y) (u y)) := (chv_link ho hb ht).wk (chK_read od hf)
theorem vct_link (ho : OpR X (compareOp op) r) (od : OpD X.K r f) (g : α → β → R Bool) (hf : ∀ x y, f (en x) (en y) = (g x y).map en) (hb : VE X W E ρ .frz b n) (ht : VChT X W E ρ (op' :: ops) (c :: es) u) : VChT X W E ρ (op :: op' :: ops) (b :: c :: es) (fun x => n.bind fun y => andR (g x y) (u y)) := (cht_link ho hb ht).wk (chK_read od hf)
theorem ch_read {K : PySem.W.Frag} {L : Nat} {t : α → R Bool} (σ : L2.St) (H : Hp) (Q : VK) (h : tE K W E L ρ .frz (m.bind t) σ H Q) : tE K W E L ρ .frz m σ H fun v H1 => tCh K W E L ρ t v σ H1 Q := by
  obtain ⟨H0, F, k, q⟩ := h
  exact ⟨H0, F, k, (hd_bind q).imp fun d m1 v H1 F1 fp s1 x1 f1 w1 _ => ⟨H0, F1, d, k.grow s1 x1 f1, w1.toRp.2, (m1.heap s1).imp fun z q => q.step s1 x1⟩⟩
theorem ve_ch {t : α → R Bool} (ha : VE X W E ρ .frz a m) (ht : VCh X W E ρ (op :: op1 :: ops) (b :: c :: es) t) (hm : lastMarks (op :: op1 :: ops) (b :: c :: es) = false := by with_unfolding_all rfl) : VE X W E ρ .frz (.Compare a (op :: op1 :: ops) (b :: c :: es) pos) (m.bind t) := (pe_chN ha ht hm).wk ch_read
theorem vt_ch {t : α → R Bool} (ha : VE X W E ρ .frz a m) (ht : VChT X W E ρ (op :: op1 :: ops) (b :: c :: es) t) (hm : lastMarks (op :: op1 :: ops) (b :: c :: es) = false := by with_unfolding_all rfl) : VT X W E ρ (.Compare a (op :: op1 :: ops) (b :: c :: es) pos) (m.bind t) :=
  (pt_chN ha ht hm).wk fun σ H Q ⟨H0, F, k, q⟩ => ⟨H0, F, k, (hd_bind q).imp fun d m1 v H1 F1 fp s1 x1 f1 w1 _ => ⟨H0, F1, d, k.grow s1 x1 f1, w1.toRp.2, (m1.heap s1).imp fun z q w H2 F2 fq s2 x2 f2 w2 _ => ⟨z, bool_rp w2.toRp.2, q H2 (s1.trans s2)⟩⟩⟩
/-- what is reckoned without fail -/
theorem vc_eq {u' : α → R Bool} (h : VCh X W E ρ ops es u') {v : α → R Bool} (q : u' = v) : VCh X W E ρ ops es v := q ▸ h
theorem vct_eq {u' : α → R Bool} (h : VChT X W E ρ ops es u') {v : α → R Bool} (q : u' = v) : VChT X W E ρ ops es v := q ▸ h
theorem vc_linkP {y : β} {g' : α → Bool} {z : Bool} (ho : OpR X (compareOp op) r) (od : OpD X.K r f) (g : α → β → R Bool) (hf : ∀ x y, f (en x) (en y) = (g x y).map en) (hb : VE X W E ρ .frz b (.ok y)) (ht : VCh X W E ρ (op' :: ops) (c :: es) u) (hg : ∀ x, g x y = .ok (g' x) := by intro _; rfl) (hu : u y = .ok z := by rfl) : VCh X W E ρ (op :: op' :: ops) (b :: c :: es) (fun x => .ok (g' x && z)) :=
  vc_eq (vc_link ho od g hf hb ht) (by funext x; show andR (g x y) (u y) = _; rw [hg, hu, andR_ok])
theorem vct_linkP {y : β} {g' : α → Bool} {z : Bool} (ho : OpR X (compareOp op) r) (od : OpD X.K r f) (g : α → β → R Bool) (hf : ∀ x y, f (en x) (en y) = (g x y).map en) (hb : VE X W E ρ .frz b (.ok y)) (ht : VChT X W E ρ (op' :: ops) (c :: es) u) (hg : ∀ x, g x y = .ok (g' x) := by intro _; rfl) (hu : u y = .ok z := by rfl) : VChT X W E ρ (op :: op' :: ops) (b :: c :: es) (fun x => .ok (g' x && z)) :=
  vct_eq (vct_link ho od g hf hb ht) (by funext x; show andR (g x y) (u y) = _; rw [hg, hu, andR_ok])
end
/-! ### repr of lists and tuples -/
def rRepr (K : PySem.W.Frag) : List V → Hp → VK → Prop := fun vs H Q => ∃ a d, vs = [.ref a] ∧ Dp K H (.ref a) d ∧ d.showable = true ∧ d.depth ≤ 64 ∧ d.shown.length ≤ sizeLine ∧ d.canLay0 = true ∧ Q (.str d.shown) H
theorem cr_repr {X : Cx} (hg : X.A.guards = some []) (hu : X.A.units + 66 < cLine) : CallR X (.builtin "repr") (rRepr X.K) := fun pins s σ H vs us Q I r ⟨a, d, e, hd, h1, h2, h3, h4, q⟩ => by
  subst e
  cases r with
  | cons r t =>
    cases t
    cases r
    obtain ⟨as, rd⟩ := Dp.reads I d (.ref a) (.ref a) hd rfl
    exact repr_of_reads' rd h1 (PyData.noDict_hsm (PyData.hasDict_of_canLay d h4)) hg (by omega) (fun _ _ z => z) (fun h' u tk hk => ⟨.str d.shown, H, I.kept (h' := h') (t' := tk) hk, ⟨u, rfl⟩, q⟩) h3

theorem ca_repr {K : PySem.W.Frag} : CaD K (rRepr K) fRepr := ca_one (fun W E F H v d Q s r m => by
  have m := hd_map (show Hd E W H ((reprR d).map .str) (VPost K W F H Q) from m)
  unfold reprR at m
  by_cases z : (d.showable && decide (d.depth ≤ 64) && decide (d.shown.length ≤ sizeLine) && okD d && !flatD d) = true
  · rw [if_pos z] at m
    simp only [Bool.and_eq_true, decide_eq_true_eq, Bool.not_eq_true'] at z
    obtain ⟨⟨⟨⟨z1, z2⟩, z3⟩, z4⟩, z5⟩ := z
    have dp := (r.up s).dp _ _ (okD_l z4)
    have ref : ∃ a, v = .ref a := by cases r <;> first | exact ⟨_, rfl⟩ | cases z5
    obtain ⟨a, rfl⟩ := ref
    exact ⟨a, d, rfl, dp, z1, z2, z3, okD_l z4, m _ H F (Same.refl H) (Ext.refl F H) s (.str _)⟩
  · rw [if_neg z] at m; exact False.elim m) fun ds z => not_one (g := fRepr) (f := fun d => fRepr [d]) (fun _ => rfl) rfl (fun a b r => by cases a <;> rfl) z

/-! ### built-ins by kinds -/
section
variable {α : Type} [En α]
def gLen (x : List α × Unit) : R Int := .ok x.1.length
def gLenT (x : Tu α × Unit) : R Int := .ok x.1.l.length
theorem hLen (x : List α × Unit) : fLen (enl x) = (gLen x).map en := by
  show R.ok (PyData.int ((x.1.map en).length : Int)) = _
  rw [List.length_map]; rfl
theorem hLenT (x : Tu α × Unit) : fLen (enl x) = (gLenT x).map en := by
  show R.ok (PyData.int ((x.1.l.map en).length : Int)) = _
  rw [List.length_map]; rfl
/-- of a tuple of told length -/
def gLenN (n : Int) (_ : α × Unit) : R Int := .ok n
def gAbs (x : Int × Unit) : R Int := .ok (absI x.1)
theorem hAbs (x : Int × Unit) : fAbs (enl x) = (gAbs x).map en := rfl
def gInt (x : Int × Unit) : R Int := .ok x.1
theorem hInt (x : Int × Unit) : fInt (enl x) = (gInt x).map en := rfl
def gIntB (x : Bool × Unit) : R Int := .ok (if x.1 then 1 else 0)
theorem hIntB (x : Bool × Unit) : fInt (enl x) = (gIntB x).map en := rfl
def gMax2 (x : Int × Int × Unit) : R Int := .ok (max2 x.1 x.2.1)
theorem hMax2 (x : Int × Int × Unit) : fMax2 (enl x) = (gMax2 x).map en := rfl
def gMin2 (x : Int × Int × Unit) : R Int := .ok (min2 x.1 x.2.1)
theorem hMin2 (x : Int × Int × Unit) : fMin2 (enl x) = (gMin2 x).map en := rfl
def gGcd (x : Int × Int × Unit) : R Int := .ok (gcdI x.1 x.2.1)
theorem hGcd (x : Int × Int × Unit) : fGcd (enl x) = (gGcd x).map en := rfl
theorem asInts_map : ∀ ns : List Int, asInts (ns.map en) = some ns
  | [] => rfl
  | i :: r => by
    show (asInts (r.map en)).map (i :: ·) = _
    rw [asInts_map r]; rfl
theorem asBools_map : ∀ ns : List Bool, asBools (ns.map en) = some ns
  | [] => rfl
  | i :: r => by
    show (asBools (r.map en)).map (i :: ·) = _
    rw [asBools_map r]; rfl
def gSum (x : List Int × Unit) : R Int := .ok x.1.sum
theorem hSum (x : List Int × Unit) : fSum (enl x) = (gSum x).map en := by
  show (match asInts (x.1.map en) with | some ns => R.ok (PyData.int ns.sum) | none => .no) = _
  rw [asInts_map]; rfl
def gAny (x : List Bool × Unit) : R Bool := .ok (x.1.any id)
theorem hAny (x : List Bool × Unit) : fAny (enl x) = (gAny x).map en := by
  show (match asBools (x.1.map en) with | some ns => R.ok (PyData.bool (ns.any id)) | none => .no) = _
  rw [asBools_map]; rfl
def gAll (x : List Bool × Unit) : R Bool := .ok (x.1.all id)
theorem hAll (x : List Bool × Unit) : fAll (enl x) = (gAll x).map en := by
  show (match asBools (x.1.map en) with | some ns => R.ok (PyData.bool (ns.all id)) | none => .no) = _
  rw [asBools_map]; rfl
def gList (x : List α × Unit) : R (List α) := .ok x.1
theorem hList (x : List α × Unit) : fList (enl x) = (gList x).map en := rfl
def gListT (x : Tu α × Unit) : R (List α) := .ok x.1.l
theorem hListT (x : Tu α × Unit) : fList (enl x) = (gListT x).map en := rfl
def gTuple (x : List α × Unit) : R (Tu α) := .ok ⟨x.1⟩
theorem hTuple (x : List α × Unit) : fTuple (enl x) = (gTuple x).map en := rfl
def gSorted (x : List Int × Unit) : R (List Int) := .ok (sortI x.1)
theorem hSorted (x : List Int × Unit) : fSorted (enl x) = (gSorted x).map en := by
  show (match asInts (x.1.map en) with | some ns => R.ok (PyData.list ((sortI ns).map PyData.int)) | none => .no) = _
  rw [asInts_map]; rfl
def gRepr (x : α × Unit) : R Str := reprR (en x.1)
theorem hRepr (x : α × Unit) : fRepr (enl x) = (gRepr x).map en := rfl
end
/-- isinstance against a built-in type -/
def isiR (T : String) (d : D) : R Bool := match tyD d with
  | some t => .ok (subT t T)
  | none => .no
section
variable {X : Cx} {W : Vp} {E : L2.St → XK} {ρ : Env} {e : Expr} {α β : Type} [En α] [En β] {m : R α} {T : String}
theorem te_isi (h : PE X e (tCB (rIsi X.K) (tCons (tE X.K W E X.N.length ρ .frz m) (tCons (L2.tC (.ty T)) tNil)))) (hk : ∀ t ∈ ["NoneType", "bool", "int", "str", "list", "tuple"], kitB t T = some (subT t T) := by decide +kernel) : VE X W E ρ .frz e (m.bind fun x => isiR T (en x)) := h.wk fun σ H Q ⟨H0, F, k, q⟩ =>
  ⟨H0, F, k, (hd_bind q).imp fun d m1 v H1 F1 fp s1 x1 f1 w1 _ => by
    have r1 := w1.toRp.2
    generalize en d = d at m1 r1
    unfold isiR at m1
    cases q : tyD d with
    | none => rw [q] at m1; exact False.elim m1
    | some t =>
      simp only [q] at m1
      have z : kitB t T = some (subT t T) := hk t (by cases d <;> cases q <;> simp)
      generalize subT t T = b at z m1
      · have fin : Q (.bl b) H1 := okH m1 _ H1 F1 [] s1 x1 f1 (.fz (.bl b)) fun x hx => nomatch hx
        have tx : TyX X.K H1 v (.type t) := by
          cases r1 with
          | non => cases q; exact .base .non
          | bl b => cases q; exact .base (.bl b)
          | int b => cases q; exact .base (.int b)
          | str b => cases q; exact .base (.str b)
          | lst h1 h2 =>
            cases q
            rcases sqr_mono f1 h1 with (h1 | ⟨o, h1⟩) | ⟨its, n, h1, _⟩
            · exact .base (.lst h1)
            · exact .base (.frz h1)
            · exact .kList h1 rfl
          | tup h1 h2 =>
            cases q
            rcases sqt_mono f1 h1 with (h1 | ⟨o, h1⟩) | ⟨o, its, n, h1, h2, _⟩
            · exact .base (.tup h1)
            · exact .fTuple h1
            · exact .kTuple h1 h2
          | obj h0 h1 h2 => cases q
          | dic h1 h2 => cases q
          | exn h1 => cases q
        exact ⟨v, .ty T, .type t, .type T, b, rfl, .ty T, tx, kit_ty z, fin⟩⟩
/-! ### list(range(n)), list(reversed(xs)) -/
def lrgR (n : Int) : R (List Int) := if 0 ≤ n ∧ n ≤ 100000 then .ok (rangeI 0 n) else .no
theorem rg_ints {K : PySem.W.Frag} {C : Rc} {H : Hp} (a b : Int) : RpA K C H (rgV a b) ((rangeI a b).map en) := by
  unfold rgV rangeI
  rw [List.map_map]
  generalize List.range (b - a).toNat = l
  induction l with
  | nil => exact .nil
  | cons k r ih => exact .cons (.int _) ih
theorem te_lrg {m : R Int} {p p2 pos pos2 : Pos} (hc : X.calm = true) (hg : Gl X "list") (hm : X.mg "list" = none) (hg2 : Gl X "range") (hm2 : X.mg "range" = none) (he : VE X W E ρ .frz e m)
    (z1 : starEach [e] X.env = (false, eval e X.env) :: starEach [] X.env := by rfl)
    (z2 : starEach [.Call (.Name "range" p2) [e] [] pos2] X.env = (false, eval (.Call (.Name "range" p2) [e] [] pos2) X.env) :: starEach [] X.env := by rfl) :
    VE X W E ρ (.lst .frz) (.Call (.Name "list" p) [.Call (.Name "range" p2) [e] [] pos2] [] pos) (m.bind lrgR) :=
  (pe_listRg hc hg hm (prg_1 hg2 hm2 he z1) z2).wk fun σ H Q ⟨H0, F, k, q⟩ => ⟨H0, F, k, (hd_bind q).imp fun n m1 v H1 F1 fp s1 x1 f1 w1 _ => by
    have ev := int_rp w1.toRp.2
    subst ev
    by_cases z : 0 ≤ n ∧ n ≤ 100000
    · have m2 := m1
      simp only [lrgR, if_pos z] at m2
      exact ⟨n, rfl, RgOk.of_le (by omega) (by omega) (by omega) (by omega), fun p hp => (okH m2).np p _ _ _ F1 rfl (s1.trans (same_upd hp)) x1 (f1.trans (same_upd hp)) (none_back s1 hp) (none_back f1 hp) upd_same (rg_ints 0 n)⟩
    · simp only [lrgR, if_neg z] at m1
      exact False.elim m1⟩
theorem RpA.rev {K : PySem.W.Frag} {C : Rc} {H : Hp} : ∀ {vs : List V} {ds : List D}, RpA K C H vs ds → RpA K C H vs.reverse ds.reverse
  | _, _, .nil => .nil
  | _, _, .cons h t => by
    rw [List.reverse_cons, List.reverse_cons]
    exact (RpA.rev t).app (.cons h .nil)
theorem te_rev {m : R (List α)} {p p2 pos pos2 : Pos} (hc : X.calm = true) (hg : Gl X "list") (hm : X.mg "list" = none) (hg2 : Gl X "reversed") (hm2 : X.mg "reversed" = none) (he : VE X W E ρ .frz e m)
    (z1 : starEach [e] X.env = (false, eval e X.env) :: starEach [] X.env := by rfl)
    (z2 : starEach [.Call (.Name "reversed" p2) [e] [] pos2] X.env = (false, eval (.Call (.Name "reversed" p2) [e] [] pos2) X.env) :: starEach [] X.env := by rfl) :
    VE X W E ρ (.lst .frz) (.Call (.Name "list" p) [.Call (.Name "reversed" p2) [e] [] pos2] [] pos) (m.map List.reverse) :=
  (pe_lstRev hc hg hm hg2 hm2 he z1 z2).wk fun σ H Q ⟨H0, F, k, q⟩ => ⟨H0, F, k, (hd_map q).imp fun d m1 v H1 F1 fp s1 x1 f1 w1 _ => by
    have r1 := w1.toRp.2
    cases r1 with
    | lst h1 h2 => exact ⟨_, _, rfl, sqr_l (sqr_mono f1 h1), fun p hp => m1.np p _ _ _ F1 (show en d.reverse = .list (d.map en).reverse by rw [← List.map_reverse]; rfl) (s1.trans (same_upd hp)) x1 (f1.trans (same_upd hp)) (none_back s1 hp) (none_back f1 hp) upd_same h2.rev⟩⟩
end
end Tx

set_option Elab.async false
set_option linter.all false
set_option maxRecDepth 100000
set_option maxHeartbeats 4000000
/-! A15: rules as they are printed. -/
namespace Tx
open PySem L2 PyProof.Rows En EnL

theorem Rm.rep {k : Nat} {A : Around} (r : Rm k A) : A.units + 66 < cLine := by have := r.room.un; omega
theorem Rm.u65 {k : Nat} {A : Around} (r : Rm k A) : A.units + 65 < cLine := by have := r.rep; omega
/-- another reading of what is assigned -/
theorem asg_wk {X : Cx} {st : Stmt} {te te' : TE} {g : L2.TG} (h : PS X st (tAsg te g)) (i : ∀ σ H Q, te' σ H Q → te σ H Q) : PS X st (tAsg te' g) := h.wk fun De σ H q => i σ H _ q
section
variable {K : PySem.W.Frag} {W : Vp} {E : L2.St → XK} {L : Nat} {ρ : Env} {s : Sh} {α β : Type} [En α] [En β] {m m' : R α}
theorem rd_frz (σ : L2.St) (H : Hp) (Q : VK) (h : tE K W E L ρ .frz m σ H Q) : tE K W E L ρ s m σ H Q := by
  obtain ⟨H0, F, k, q⟩ := h
  exact ⟨H0, F, k, q.imp fun _ => Post.frz⟩
theorem rd_eq (e : m = m') (σ : L2.St) (H : Hp) (Q : VK) (h : tE K W E L ρ s m' σ H Q) : tE K W E L ρ s m σ H Q := e ▸ h
theorem rd_gr [GrT s α] (σ : L2.St) (H : Hp) (Q : VK) (h : tE K W E L ρ s m σ H Q) : tE K W E L (fzA ρ) s m σ H Q := by
  obtain ⟨H0, F, k, q⟩ := h
  exact ⟨H, H, k.all, q.imp fun a p v H' F' fp s1 x1 f1 w n => p v H' F fp s1 (Ext.refl F H) (k.sub.trans s1) (w.ground (GrT.gr a)) fun x hx => ⟨(n x hx).1, by
    cases y : F x with
    | none => rfl
    | some o =>
      have z := (n x hx).1
      rw [k.sub x o y] at z; cases z⟩⟩
end
section
variable {X : Cx} {W : Vp} {E : L2.St → XK} {ρ : Env} {s : Sh} {α β : Type} [En α] [En β] {st : Stmt} {g0 : L2.TG} {m m' : R α}
theorem ps_frz (h : PS X st (tAsg (tE X.K W E X.N.length ρ s m) g0)) : PS X st (tAsg (tE X.K W E X.N.length ρ .frz m) g0) := asg_wk h rd_frz
theorem ps_gr [GrT s α] (h : PS X st (tAsg (tE X.K W E X.N.length (fzA ρ) s m) g0)) : PS X st (tAsg (tE X.K W E X.N.length ρ s m) g0) := asg_wk h rd_gr
theorem ps_eqm (h : PS X st (tAsg (tE X.K W E X.N.length ρ s m) g0)) (q : m = m') : PS X st (tAsg (tE X.K W E X.N.length ρ s m') g0) := asg_wk h (rd_eq q)
variable {elt tg iter : Expr} {ifs : List Expr} {scope : Scope} {own : List (Str × Nat)} {pos spos py : Pos} {mi : R (List α)} {g : GF} {ρx : α → Env} {t : α → R Bool} {f : α → R β} {r : List α → R (List β)} {i : Nat} {y : Str}
theorem lc_eq {K : PySem.W.Frag} {L : Nat} (hr : ∀ xs, noX (fmapR t f xs) = r xs) : (mi.bind fun xs => noX (fmapR t f xs)) = mi.bind r := by
  congr 1
  funext xs
  exact hr xs
theorem te_lc (hr : ∀ xs, noX (fmapR t f xs) = r xs) (hc : X.calm = true) (hN : X.N.Nodup) (hi : VI X W E ρ false tg iter mi) (ok : BlkOk X.N X.env.scope scope own)
    (hg : ∀ (s : Shared) (H : Hp) (C : Addr) (cl : List (Str × Addr)) (fp : List Addr), VG (X.blk s H scope (compEnvC scope cl C X.env) fp) W (fun i => (own.map (·.2)).contains i) tg g)
    (hx : ∀ x, g (en x) (wE ρ (own.map (·.2))) = some (ρx x))
    (ht : ∀ (x : α) (s : Shared) (H : Hp) (C : Addr) (cl : List (Str × Addr)) (fp : List Addr), VTs (X.blk s H scope (compEnvC scope cl C X.env) fp) W (ρx x) ifs (t x))
    (he : ∀ (x : α) (sh : Shared) (H : Hp) (C : Addr) (cl : List (Str × Addr)) (fp : List Addr), VE (X.blk sh H scope (compEnvC scope cl C X.env) fp) W EN (ρx x) s elt (f x)) (hs : ∀ z, foldedSetIterable iter X.env z = pure z := by intro _; rfl) :
    VE X W E ρ (.lst s) (.ListComp elt [⟨tg, iter, ifs, 0⟩] scope pos) (mi.bind r) := ve_eq (vn_lc hc hN hi ok hg hx ht he hs) (lc_eq (K := X.K) (L := 0) hr)
theorem ts_lc (hr : ∀ xs, noX (fmapR t f xs) = r xs) (hc : X.calm = true) (hN : X.N.Nodup) (hy : X.N[i]? = some y) (hyl : X.env.scope.names.lookup y = some .local)
    (hsw : swapsWith (.ListComp elt [⟨tg, iter, ifs, 0⟩] scope pos) (some (.Name y py)) spos.line X.env = pure true) (hi : VI X W E ρ false tg iter mi) (ok : BlkOk X.N X.env.scope scope own)
    (hg : ∀ (s : Shared) (H : Hp) (C : Addr) (cl : List (Str × Addr)) (fp : List Addr), VG (X.blk s H scope (compEnvC scope cl C X.env) fp) W (fun i => (own.map (·.2)).contains i) tg g)
    (hx : ∀ x, g (en x) (wE ρ (own.map (·.2))) = some (ρx x))
    (ht : ∀ (x : α) (s : Shared) (H : Hp) (C : Addr) (cl : List (Str × Addr)) (fp : List Addr), VTs (X.blk s H scope (compEnvC scope cl C X.env) fp) W (ρx x) ifs (t x))
    (he : ∀ (x : α) (sh : Shared) (H : Hp) (C : Addr) (cl : List (Str × Addr)) (fp : List Addr), VE (X.blk sh H scope (compEnvC scope cl C X.env) fp) W EN (ρx x) s elt (f x)) (hs : ∀ z, foldedSetIterable iter X.env z = pure z := by intro _; rfl) :
    PS X (.Assign [.Name y py] (.ListComp elt [⟨tg, iter, ifs, 0⟩] scope pos) spos) (tAsg (tE X.K W E X.N.length ρ (.lst s) (mi.bind r)) (gName i)) :=
  ps_eqm (asg_wk (ps_setLc hc hN hy hyl hsw hi ok hg (fun s H C cl fp => pts_any fun x => ht x s H C cl fp) (fun s H C cl fp => pe_any fun x => he x s H C cl fp) hs) (lc_read hx)) (lc_eq (K := X.K) (L := 0) hr)
end
section
variable {α β : Type} [En α] [En β] {f : α → R β} {h : α → β} {p : α → Bool} {t : α → R Bool}
theorem lcM (xs : List α) : noX (fmapR (fun _ => .ok true) f xs) = noX (mapR f xs) := by rw [fmapR_true]
theorem lcP (xs : List α) : noX (fmapR (fun _ => .ok true) (fun x => .ok (h x)) xs) = .ok (xs.map h) := by rw [fmapR_true, mapR_ok]; rfl
theorem lcFP (xs : List α) : noX (fmapR (fun x => .ok (p x)) (fun x => .ok (h x)) xs) = .ok ((xs.filter p).map h) := by rw [fmapR_ok]; rfl
omit [En α] [En β] in
theorem lcF (xs : List α) : noX (fmapR t f xs) = noX (fmapR t f xs) := rfl
end
end Tx

set_option Elab.async false
set_option linter.all false
set_option maxRecDepth 100000
set_option maxHeartbeats 4000000
/-! A16: rules in the order in which the printer wants them. -/
namespace Tx
open PySem L2 PyProof.Rows En EnL

theorem R.map_eq {α β : Type} (f : α → β) (m : R α) : m.map f = m.bind fun a => .ok (f a) := by cases m <;> rfl
theorem R.bind_eta {α : Type} (m : R α) : (m.bind fun c => .ok c) = m := by cases m <;> rfl
instance {s : Sh} {α β γ δ : Type} [En α] [GrT s α] [En β] [GrT s β] [En γ] [GrT s γ] [En δ] [GrT s δ] : GrT (.tup s) (T4 α β γ δ) := ⟨fun a => .tup fun d h => by
  rcases List.mem_cons.mp h with rfl | h
  · exact GrT.gr a.a
  · rcases List.mem_cons.mp h with rfl | h
    · exact GrT.gr a.b
    · rcases List.mem_cons.mp h with rfl | h
      · exact GrT.gr a.c
      · rcases List.mem_cons.mp h with rfl | h
        · exact GrT.gr a.d
        · cases h⟩
instance {α β γ δ : Type} [En α] [En β] [En γ] [En δ] : NN (T4 α β γ δ) := ⟨fun _ h => by cases h⟩
section
variable {X : Cx} {W : Vp} {E : L2.St → XK} {ρ : Env} {s : Sh} {st : Stmt} {rest body : List Stmt} {tg iter e : Expr} {pos : Pos} {b0 : Bool}
variable {α β S : Type} [En α] {g : GF}
theorem vi_eqm {m m' : R (List α)} (h : VI X W E ρ b0 tg e m) (q : m = m') : VI X W E ρ b0 tg e m' := q ▸ h
variable {out : β → Out}
theorem vb_ret0 {m : R α} {out : α → Out} (h : PS X st (tRet (tE X.K W E X.N.length ρ s m))) (ho : ∀ a, out a = .rt s (en a) none := by intro _; rfl) : VB X W E ρ [st] m out := by
  have h2 := vb_ret (inj := fun a : α => a) (out := out) h ho
  rw [R.map_id'] at h2
  exact h2
theorem vb_retP {x : α} {b : β} (h : PS X st (tRet (tE X.K W E X.N.length ρ s (.ok x)))) (ho : out b = .rt s (en x) none := by rfl) : VB X W E ρ [st] (.ok b) out := (pss_one h).wk fun De σ H ⟨H0, F0, F, kk, x', q⟩ =>
  ⟨H0, F, kk, fun v H1 F1 fp s1 x1 f1 w n => by
    have q : SPost X.K W X.N.length H0 F0 De (out b) := q
    rw [ho] at q
    exact q v H1 F1 fp (kk.same.trans s1) (x'.trans kk.same x1) f1 w fun a ha => ⟨none_back kk.same (n a ha).1, (n a ha).2⟩⟩
theorem tb_for {mi : R (List α)} {k : S → R β} {e : S → Env} {s0 : S} {ρx : α → S → Env} {f : α → S → R S} (hx : ∀ x s, g (en x) (e s) = some (ρx x s)) (hp : PassesOwn (model X.prog X.w) X.A X.env X.xe) (hc : X.calm = true) (hi : VI X W E ρ true tg iter mi) (hg : VG X W (fun _ => true) tg g) (hl : Le (e s0) ρ)
    (hb : ∀ x s, VB X W E (ρx x s) body (f x s) fun s' => .nc (e s')) (hr : ∀ s, VB X W E (e s) rest (k s) out) (hs : ∀ z, foldedSetIterable iter X.env z = pure z := by intro _; rfl) :
    VB X W E ρ (.For tg iter body [] pos :: rest) (mi.bind fun xs => (forR f xs s0).bind k) out := vb_for hp hc hi hg hl hb hr hx hs
theorem tb_loop {mi : R (List α)} {k : S → R β} {e : S → Env} {s0 : S} {ρx : α → S → Env} {f : α → S → R (Lc S β)} (hx : ∀ x s, g (en x) (e s) = some (ρx x s)) (hp : PassesOwn (model X.prog X.w) X.A X.env X.xe) (hc : X.calm = true) (hi : VI X W E ρ true tg iter mi) (hg : VG X W (fun _ => true) tg g) (hl : Le (e s0) ρ)
    (hb : ∀ x s, VB X W E (ρx x s) body (f x s) (lcOut e out)) (hr : ∀ s, VB X W E (e s) rest (k s) out) (hs : ∀ z, foldedSetIterable iter X.env z = pure z := by intro _; rfl) :
    VB X W E ρ (.For tg iter body [] pos :: rest) (mi.bind fun xs => thenR (loopR f xs s0) k) out := vb_loop hp hc hi hg hl hb hr hx hs
theorem tb_asg {m : R α} {P : Nat → Bool} {k : α → R β} {ρx : α → Env} (hg : ∀ a, g (en a) ρ = some (ρx a)) (h : PS X st (tAsg (tE X.K W E X.N.length ρ .frz m) (tG X.K W X.N.length P g))) (hr : ∀ a, VB X W E (ρx a) rest (k a) out) : VB X W E ρ (st :: rest) (m.bind k) out := vb_asg h hr hg
end
section
variable {X : Cx} {W : Vp} {E : L2.St → XK} {ρ : Env} {s s' s2 : Sh} {e b : Expr} {pos : Pos} {i : Nat} {r : Option V} {α γ δ β : Type} [En α] [En γ] [En δ] {a : α} {out : β → Out} {st : Stmt} {rest : List Stmt}
theorem tb_app {mp : R (List δ × (List δ → α))} {me : R δ} {m' : R α} {k : α → R β} (h : PS X st (tDrop (tBM X.K "list" rAppend (tP X.K W E X.N.length ρ i s r a (.lst s2) mp) (tCons (tE X.K W E X.N.length ρ s2 me) tNil)))) (q : (mp.bind fun p => me.bind fun x => (appR p.1 x).bind fun c => .ok (p.2 c)) = m') (hr : ∀ z : α, VB X W E (se ρ i (.vl (.ow s r) (en z))) rest (k z) out) (hi : ρ i = .vl (.ow s r) (en a) := by rfl) :
    VB X W E ρ (st :: rest) (m'.bind k) out := by
  have h2 := vb_app h hr hi
  subst q
  simp only [R.bind_assoc, R.ok_bind]
  exact h2
theorem tb_put {mp : R (List δ × (List δ → α))} {me : R δ} {mk : R Int} {m' : R α} {k : α → R β} (h : PS X st (tAsg (tE X.K W E X.N.length ρ s2 me) (gSub (tP X.K W E X.N.length ρ i s r a (.lst s2) mp) (tE X.K W E X.N.length ρ .frz mk) rSetL))) (q : (me.bind fun x => mp.bind fun p => mk.bind fun j => (putR p.1 j x).bind fun c => .ok (p.2 c)) = m') (hr : ∀ z : α, VB X W E (se ρ i (.vl (.ow s r) (en z))) rest (k z) out) (hi : ρ i = .vl (.ow s r) (en a) := by rfl) :
    VB X W E ρ (st :: rest) (m'.bind k) out := by
  have h2 := vb_put h hr hi
  subst q
  simp only [R.bind_assoc, R.ok_bind]
  exact h2
theorem tb_aug {f : Int → Int → Int} {m m' : R Int} {k : Int → R β} {a : Int} (h : PS X st (tAug i (tE X.K W E X.N.length ρ .frz m) (ipI f))) (ha : ρ i = .vl .fz (en a)) (q : (m.bind fun y => .ok (f a y)) = m') (hr : ∀ z, VB X W E (se ρ i (.vl .fz (en z))) rest (k z) out) (hi : Nat.blt i X.N.length = true := by rfl) : VB X W E ρ (st :: rest) (m'.bind k) out := by
  have h2 := vb_aug h ha hr hi
  subst q
  simp only [R.bind_assoc, R.ok_bind]
  exact h2
end
/-! ### what is reckoned, as it is told (by lemmas that are no definitions, so that the kernel goes step by step) -/
section
variable {α β : Type} [En α] [En β]
theorem R.okb {α β : Type} (a : α) (f : α → R β) : (R.ok a).bind f = f a := Eq.trans rfl rfl
theorem R.exb {α β : Type} (c : Nat) (f : α → R β) : (R.ex c : R α).bind f = .ex c := Eq.trans rfl rfl
theorem R.nob {α β : Type} (f : α → R β) : (R.no : R α).bind f = .no := Eq.trans rfl rfl
theorem q_gInt (x : Int × Unit) : gInt x = .ok x.1 := Eq.trans rfl rfl
theorem q_gIntB (x : Bool × Unit) : gIntB x = .ok (if x.1 then 1 else 0) := Eq.trans rfl rfl
theorem q_gLen (x : List α × Unit) : gLen x = .ok x.1.length := Eq.trans rfl rfl
theorem q_gLenT (x : Tu α × Unit) : gLenT x = .ok x.1.l.length := Eq.trans rfl rfl
theorem q_gLenN (n : Int) (x : α × Unit) : gLenN n x = .ok n := Eq.trans rfl rfl
theorem q_gAbs (x : Int × Unit) : gAbs x = .ok (absI x.1) := Eq.trans rfl rfl
theorem q_gMax2 (x : Int × Int × Unit) : gMax2 x = .ok (max2 x.1 x.2.1) := Eq.trans rfl rfl
theorem q_gMin2 (x : Int × Int × Unit) : gMin2 x = .ok (min2 x.1 x.2.1) := Eq.trans rfl rfl
theorem q_gGcd (x : Int × Int × Unit) : gGcd x = .ok (gcdI x.1 x.2.1) := Eq.trans rfl rfl
theorem q_gSum (x : List Int × Unit) : gSum x = .ok x.1.sum := Eq.trans rfl rfl
theorem q_gAny (x : List Bool × Unit) : gAny x = .ok (x.1.any id) := Eq.trans rfl rfl
theorem q_gAll (x : List Bool × Unit) : gAll x = .ok (x.1.all id) := Eq.trans rfl rfl
theorem q_gList (x : List α × Unit) : gList x = .ok x.1 := Eq.trans rfl rfl
theorem q_gListT (x : Tu α × Unit) : gListT x = .ok x.1.l := Eq.trans rfl rfl
theorem q_gTuple (x : List α × Unit) : gTuple x = .ok ⟨x.1⟩ := Eq.trans rfl rfl
theorem q_gSorted (x : List Int × Unit) : gSorted x = .ok (sortI x.1) := Eq.trans rfl rfl
theorem q_gRepr (x : α × Unit) : gRepr x = reprR (en x.1) := Eq.trans rfl rfl
theorem q_cLt (x y : Int) : cLt x y = .ok (decide (x < y)) := Eq.trans rfl rfl
theorem q_cLe (x y : Int) : cLe x y = .ok (decide (x ≤ y)) := Eq.trans rfl rfl
theorem q_cGt (x y : Int) : cGt x y = .ok (decide (y < x)) := Eq.trans rfl rfl
theorem q_cGe (x y : Int) : cGe x y = .ok (decide (y ≤ x)) := Eq.trans rfl rfl
theorem q_cEq [DecidableEq α] (x y : α) : cEq x y = .ok (decide (x = y)) := Eq.trans rfl rfl
theorem q_cNe [DecidableEq α] (x y : α) : cNe x y = .ok (decide (x ≠ y)) := Eq.trans rfl rfl
theorem q_cEqS (x y : Str) : cEqS x y = .ok (decide (x = y)) := Eq.trans rfl rfl
theorem q_cNeS (x y : Str) : cNeS x y = .ok (decide (x ≠ y)) := Eq.trans rfl rfl
theorem q_cEqR (x : α) (y : β) : cEqR x y = eqD (en x) (en y) := Eq.trans rfl rfl
theorem q_cNeR (x : α) (y : β) : cNeR x y = (eqD (en x) (en y)).bind fun b => .ok (!b) := R.map_eq _ _
theorem q_cIsN (x : Option α) (y : Unit) : cIsN x y = .ok x.isNone := Eq.trans rfl rfl
theorem q_cIsS (x : Option α) (y : Unit) : cIsS x y = .ok x.isSome := Eq.trans rfl rfl
theorem q_cIn [DecidableEq α] (x : α) (l : List α) : cIn x l = .ok (decide (x ∈ l)) := Eq.trans rfl rfl
theorem q_cNi [DecidableEq α] (x : α) (l : List α) : cNi x l = .ok (decide (x ∉ l)) := Eq.trans rfl rfl
theorem q_cInT [DecidableEq α] (x : α) (l : Tu α) : cInT x l = .ok (decide (x ∈ l.l)) := Eq.trans rfl rfl
theorem q_cNiT [DecidableEq α] (x : α) (l : Tu α) : cNiT x l = .ok (decide (x ∉ l.l)) := Eq.trans rfl rfl
end
end Tx

set_option Elab.async false
set_option linter.all false
set_option maxRecDepth 100000
set_option maxHeartbeats 4000000
/-! A17: instances: their data, their fields. -/
namespace Tx
open PySem L2 PyProof.Rows En EnL

/-- the pairs of names and data -/
def zipD : List Str → List D → List (D × D)
  | n :: ns, d :: ds => (.str n, d) :: zipD ns ds
  | _, _ => []
def zipS : List Str → List Sh → List (Str × Sh)
  | n :: ns, d :: ds => (n, d) :: zipS ns ds
  | _, _ => []
def insV (cn : Str) (ns : List Str) (ds : List D) : D := .dict ((.dict [], .str cn) :: zipD ns ds)
def idxS (f : Str) : List Str → Option Nat
  | [] => none
  | g :: r => if g = f then some 0 else (idxS f r).map (· + 1)
section
variable {K : PySem.W.Frag} {C : Rc} {F F' H H' : Hp} {f : Str} {v : V}
theorem look_idx : ∀ {fs : List (Str × V)} {ns : List Str} {j : Nat}, fs.map (·.1) = ns → idxS f ns = some j → fs.lookup f = (fs.map (·.2))[j]?
  | [], ns, j, e, h => by subst e; cases h
  | (g, x) :: fs, ns, j, e, h => by
    subst e
    rw [List.map_cons, idxS] at h
    by_cases q : g = f
    · rw [if_pos q] at h
      cases h
      rw [List.lookup_cons]
      simp [q]
    · rw [if_neg q] at h
      cases z : idxS f (fs.map (·.1)) with
      | none => rw [z] at h; cases h
      | some k =>
        rw [z] at h; cases h
        have := look_idx rfl z
        rw [List.lookup_cons, show (f == g) = false from by simp; exact fun e => q e.symm]
        simpa using this
theorem look_none : ∀ {fs : List (Str × V)}, f ∉ fs.map (·.1) → fs.lookup f = none
  | [], _ => rfl
  | (g, x) :: fs, h => by
    rw [List.map_cons, List.mem_cons] at h
    rw [List.lookup_cons, show (f == g) = false from by simp; exact fun e => h (.inl e)]
    exact look_none fun z => h (.inr z)
theorem put_idx : ∀ {fs : List (Str × V)} {ns : List Str} {j : Nat}, fs.map (·.1) = ns → idxS f ns = some j → putF f v fs = fs.set j (f, v)
  | [], ns, j, e, h => by subst e; cases h
  | (g, x) :: fs, ns, j, e, h => by
    subst e
    rw [List.map_cons, idxS] at h
    by_cases q : g = f
    · rw [if_pos q] at h
      cases h
      rw [putF, if_pos q, q]; rfl
    · rw [if_neg q] at h
      cases z : idxS f (fs.map (·.1)) with
      | none => rw [z] at h; cases h
      | some k =>
        rw [z] at h; cases h
        rw [putF, if_neg q, put_idx rfl z]; rfl
theorem put_none : ∀ {fs : List (Str × V)} {ns : List Str}, fs.map (·.1) = ns → idxS f ns = none → putF f v fs = fs ++ [(f, v)]
  | [], _, _, _ => rfl
  | (g, x) :: fs, ns, e, h => by
    subst e
    rw [List.map_cons, idxS] at h
    by_cases q : g = f
    · rw [if_pos q] at h; cases h
    · rw [if_neg q] at h
      have z : idxS f (fs.map (·.1)) = none := by
        cases z : idxS f (fs.map (·.1)) with
        | none => rfl
        | some k => rw [z] at h; cases h
      rw [putF, if_neg q, put_none rfl z]; rfl
theorem idx_lt : ∀ {ns : List Str} {j : Nat}, idxS f ns = some j → ns[j]? = some f
  | [], _, h => by cases h
  | g :: r, j, h => by
    rw [idxS] at h
    by_cases q : g = f
    · rw [if_pos q] at h; cases h; rw [q]; rfl
    · rw [if_neg q] at h
      cases z : idxS f r with
      | none => rw [z] at h; cases h
      | some k => rw [z] at h; cases h; simpa using idx_lt z
/-! ### frozen instances -/
theorem rpf_zip : ∀ {ns : List Str} {ds : List D} {fs : List (Str × V)}, ns.length = ds.length → RpF K C H fs (zipD ns ds) → fs.map (·.1) = ns ∧ RpA K C H (fs.map (·.2)) ds
  | [], [], _, _, .nil => ⟨rfl, .nil⟩
  | n :: ns, d :: ds, _, hl, .cons a b => by
    obtain ⟨e, r⟩ := rpf_zip (by simpa using hl) b
    exact ⟨by rw [List.map_cons, e], .cons a r⟩
  | [], _ :: _, _, hl, _ => by simp at hl
  | _ :: _, [], _, hl, _ => by simp at hl
theorem rpk_head : ∀ {fs : List (Key × V)} {kvs : List (D × D)}, RpK K C H fs kvs → ∀ p ∈ kvs, ∃ k, p.1 = keyD k
  | _, _, .nil, p, h => by cases h
  | _, _, .cons (k := k) a b, p, h => by
    rcases List.mem_cons.mp h with e | h
    · exact ⟨k, by rw [e]⟩
    · exact rpk_head b p h
theorem rp_ins {cn : Str} {ns : List Str} {ds : List D} (hl : ns.length = ds.length) (h : Rp K C H v (insV cn ns ds)) : ∃ a c dx fs, v = .ref a ∧ C.cl cn = some c ∧ H a = some (.ins c dx fs) ∧ fs.map (·.1) = ns ∧ RpA K C H (fs.map (·.2)) ds := by
  unfold insV at h
  cases h with
  | obj h0 h1 h2 =>
    obtain ⟨e, r⟩ := rpf_zip hl h2
    exact ⟨_, _, _, _, rfl, h0, h1, e, r⟩
  | dic h1 h2 =>
    obtain ⟨k, e⟩ := rpk_head h2 _ List.mem_cons_self
    cases k <;> cases e
/-! ### owned instances -/
theorem owf_zip : ∀ {ns : List Str} {ss : List Sh} {ds : List D} {fs : List (Str × V)} {fp : List Addr}, ns.length = ds.length → ns.length = ss.length → OwF K C F H (zipS ns ss) fs (zipD ns ds) fp → fs.map (·.1) = ns
  | [], [], [], _, _, _, _, .nil => rfl
  | n :: ns, s :: ss, d :: ds, _, _, hl, hl2, .cons a b _ => by rw [List.map_cons, owf_zip (by simpa using hl) (by simpa using hl2) b]
  | [], _ :: _, _, _, _, _, h, _ => by simp at h
  | _ :: _, [], _, _, _, _, h, _ => by simp at h
  | [], _, _ :: _, _, _, h, _, _ => by simp at h
  | _ :: _, _, [], _, _, h, _, _ => by simp at h
/-- a field, and another in its place, of another shape perhaps -/
theorem owf_focus : ∀ {ns : List Str} {ss : List Sh} {ds : List D} {fs : List (Str × V)} {fp : List Addr} {j : Nat} {s : Sh} {d : D}, ns.length = ds.length → ns.length = ss.length → OwF K C F H (zipS ns ss) fs (zipD ns ds) fp → ss[j]? = some s → ds[j]? = some d →
    ∃ (f : Str) (v : V) (fa fb : List Addr), ns[j]? = some f ∧ fs[j]? = some (f, v) ∧ Ow K C F H s v d fa ∧ (∀ a, a ∈ fp ↔ a ∈ fa ∨ a ∈ fb) ∧ (∀ a ∈ fa, a ∉ fb) ∧
      ∀ (F' H' : Hp) (s' : Sh) (v' : V) (d' : D) (fq : List Addr), Same F F' → (∀ a ∈ fb, H' a = H a) → Ow K C F' H' s' v' d' fq → (∀ a ∈ fq, a ∉ fb) → ∃ fr, (∀ a, a ∈ fr ↔ a ∈ fq ∨ a ∈ fb) ∧ OwF K C F' H' (zipS ns (ss.set j s')) (fs.set j (f, v')) (zipD ns (ds.set j d')) fr
  | [], [], _, _, _, _, _, _, h1, h2, _, e, _ => by simp at e
  | [], _ :: _, _, _, _, _, _, _, h1, h2, _, e, _ => by simp at h2
  | n :: ns, s0 :: ss, d0 :: ds, _, _, 0, s, d, h1, h2, .cons (fp := fa) (fq := fb) a b c, e1, e2 => by
    simp at e1 e2; subst e1 e2
    exact ⟨n, _, fa, fb, rfl, rfl, a, fun x => List.mem_append, c, fun F' H' s' v' d' fq f g w m => ⟨fq ++ fb, fun x => List.mem_append, .cons w (b.mono f g) m⟩⟩
  | n :: ns, s0 :: ss, d0 :: ds, _, _, j + 1, s, d, h1, h2, .cons (fp := fc) (fq := fd) a b c, e1, e2 => by
    obtain ⟨f0, v, fa, fb, q1, q2, q3, q4, q5, q6⟩ := owf_focus (j := j) (by simpa using h1) (by simpa using h2) b (by simpa using e1) (by simpa using e2)
    refine ⟨f0, v, fa, fc ++ fb, by simpa using q1, by simpa using q2, q3, fun x => ?_, fun x hx hy => ?_, fun F' H' s' v' d' fq f g w m => ?_⟩
    · simp only [List.mem_append, q4]
      constructor
      · rintro (h | h | h)
        · exact .inr (.inl h)
        · exact .inl h
        · exact .inr (.inr h)
      · rintro (h | h | h)
        · exact .inr (.inl h)
        · exact .inl h
        · exact .inr (.inr h)
    · rcases List.mem_append.mp hy with h | h
      · exact c x h ((q4 x).mpr (.inl hx))
      · exact q5 x hx h
    · obtain ⟨fr, r1, r2⟩ := q6 F' H' s' v' d' fq f (fun x hx => g x (mem_r hx)) w fun x hx hy => m x hx (mem_r hy)
      refine ⟨fc ++ fr, fun x => ?_, .cons (a.mono f fun x hx => g x (mem_l hx)) r2 fun x hx hy => ?_⟩
      · simp only [List.mem_append, r1]
        constructor
        · rintro (h | h | h)
          · exact .inr (.inl h)
          · exact .inl h
          · exact .inr (.inr h)
        · rintro (h | h | h)
          · exact .inr (.inl h)
          · exact .inl h
          · exact .inr (.inr h)
      · rcases (r1 x).mp hy with h | h
        · exact m x h (mem_l hx)
        · exact c x hx ((q4 x).mpr (.inr h))
  | _ :: _, [], _, _, _, _, _, _, _, h, _, _, _ => by simp at h
  | _ :: _, _ :: _, [], _, _, _, _, _, h, _, _, _, _ => by simp at h
/-- a further field -/
theorem owf_snoc {s : Sh} {d : D} {fq : List Addr} (w : Ow K C F H s v d fq) : ∀ {ns : List Str} {ss : List Sh} {ds : List D} {fs : List (Str × V)} {fp : List Addr}, ns.length = ds.length → ns.length = ss.length → OwF K C F H (zipS ns ss) fs (zipD ns ds) fp → (∀ a ∈ fp, a ∉ fq) →
    ∃ fr, (∀ a, a ∈ fr ↔ a ∈ fp ∨ a ∈ fq) ∧ OwF K C F H (zipS (ns ++ [f]) (ss ++ [s])) (fs ++ [(f, v)]) (zipD (ns ++ [f]) (ds ++ [d])) fr
  | [], [], [], _, _, _, _, .nil, _ => ⟨fq ++ [], by simp, .cons w .nil (by simp)⟩
  | n :: ns, s0 :: ss, d0 :: ds, _, _, h1, h2, .cons (fp := fa) (fq := fb) a b c, m => by
    obtain ⟨fr, r1, r2⟩ := owf_snoc w (by simpa using h1) (by simpa using h2) b fun x hx => m x (mem_r hx)
    refine ⟨fa ++ fr, fun x => ?_, .cons a r2 fun x hx hy => ?_⟩
    · simp only [List.mem_append, r1]
      constructor
      · rintro (h | h | h)
        · exact .inl (.inl h)
        · exact .inl (.inr h)
        · exact .inr h
      · rintro ((h | h) | h)
        · exact .inl h
        · exact .inr (.inl h)
        · exact .inr (.inr h)
    · rcases (r1 x).mp hy with h | h
      · exact c x hx h
      · exact m x (mem_l hx) h
  | [], _ :: _, _, _, _, _, h, _, _ => by simp at h
  | _ :: _, [], _, _, _, _, h, _, _ => by simp at h
  | [], _, _ :: _, _, _, h, _, _, _ => by simp at h
  | _ :: _, _, [], _, _, h, _, _, _ => by simp at h
theorem ow_ins {cn : Str} {ns : List Str} {ss : List Sh} {ds : List D} {fp : List Addr} (h : Ow K C F H (.ins cn (zipS ns ss)) v (insV cn ns ds) fp) : ∃ a c dx fs fq, v = .ref a ∧ C.cl cn = some c ∧ H a = some (.ins c dx fs) ∧ fp = a :: fq ∧ OwF K C F H (zipS ns ss) fs (zipD ns ds) fq ∧ a ∉ fq := by
  unfold insV at h
  cases h with
  | sc z _ => cases z
  | ins c h1 h2 h3 => exact ⟨_, _, _, _, _, rfl, c, h1, rfl, h2, h3⟩
end
end Tx

set_option Elab.async false
set_option linter.all false
set_option maxRecDepth 100000
set_option maxHeartbeats 4000000
/-! A18: fields that are read, methods that read, instances that are made. -/
namespace Tx
open PySem L2 PyProof.Rows En EnL

/-- what is told of a class: where it stands, and that it has no attributes of its own by these names -/
structure ClsI (K : PySem.W.Frag) (W : Vp) (cn : Str) (fl : List Str) : Prop where
  ex : ∃ C, W.rc.cl cn = some C ∧ Cls K C ∧ ∀ f ∈ fl, NoAttr K C f
section
variable {X : Cx} {W : Vp} {E : L2.St → XK} {ρ : Env} {s s' : Sh} {e : Expr} {pos : Pos} {i : Nat} {α β : Type} [En α] [En β] {cn f : Str} {ns fl : List Str} {ss : List Sh} {ds : List D} {j : Nat} {x : β} {r : Option V} {b0 : Bool}
/-- a field of what stands in a slot, frozen -/
theorem ve_fldD (c : ClsI X.K W cn fl) (hf : f ∈ fl) (hj : idxS f ns = some j) (h : PE X e (tVar i)) (hi : ρ i = .vl .fz (insV cn ns ds)) (hd : ds[j]? = some (en x)) (hl : ns.length = ds.length := by rfl) (hb : attributeBase e f X.env (eval e X.env) = eval e X.env := by rfl) :
    VE X W E ρ .frz (.Attribute e f pos) (.ok x) := (pe_fld h hb).wk fun σ H Q ⟨H0, F, k, q⟩ => by
  obtain ⟨fp, o1, _⟩ := k.sl
  obtain ⟨v, h1, _, h2⟩ := o1 i _ _ hi
  obtain ⟨a, c', dx, fs, rfl, hc, ho, hn, r2⟩ := rp_ins hl h2
  obtain ⟨v, q1, q2⟩ := r2.get hd
  obtain ⟨C, e1, cl, na⟩ := c.ex
  rw [e1] at hc; cases hc
  exact ⟨_, h1, a, _, dx, fs, v, rfl, k.sub _ _ ho, cl, na f hf, (look_idx hn hj).trans q1, okH q v H F [] (Same.refl H) (Ext.refl F H) k.sub (.fz q2) fun x hx => nomatch hx⟩
/-- .. of any instance -/
theorem ve_fld {m : R α} (get : α → β) (vs : α → List D) (c : ClsI X.K W cn fl) (hf : f ∈ fl) (hj : idxS f ns = some j) (h : VE X W E ρ .frz e m) (he : ∀ a, en a = insV cn ns (vs a)) (hd : ∀ a, (vs a)[j]? = some (en (get a))) (hl : ∀ a, ns.length = (vs a).length) (hb : attributeBase e f X.env (eval e X.env) = eval e X.env := by rfl) :
    VE X W E ρ .frz (.Attribute e f pos) (m.map get) := (pe_fld h hb).wk fun σ H Q ⟨H0, F, k, q⟩ => ⟨H0, F, k, (hd_map q).imp fun a q1 v H1 F1 fp s1 x1 f1 w1 _ => by
  have r1 := w1.toRp.2
  rw [he] at r1
  obtain ⟨a', c', dx, fs, rfl, hc, ho, hn, r2⟩ := rp_ins (hl a) r1
  obtain ⟨v, q3, q2⟩ := r2.get (hd a)
  obtain ⟨C, e1, cl, na⟩ := c.ex
  rw [e1] at hc; cases hc
  exact ⟨a', _, dx, fs, v, rfl, f1 _ _ ho, cl, na f hf, (look_idx hn hj).trans q3, q1 v H1 F1 [] s1 x1 f1 (.fz q2) fun x hx => nomatch hx⟩⟩
/-- a field of what a slot owns -/
theorem vr_fldD (c : ClsI X.K W cn fl) (hf : f ∈ fl) (hj : idxS f ns = some j) (h : PE X e (tVar i)) (hi : ρ i = .vl (.ow (.ins cn (zipS ns ss)) r) (insV cn ns ds)) (hd : ds[j]? = some (en x)) (hs : ss[j]? = some s) (hl : ns.length = ds.length := by rfl) (hl2 : ns.length = ss.length := by rfl) (hb : attributeBase e f X.env (eval e X.env) = eval e X.env := by rfl) :
    VR X W E ρ false s (.Attribute e f pos) (.ok x) := (pe_fld h hb).wk fun σ H Q ⟨H0, F, k, q⟩ => by
  obtain ⟨fp, o1, _⟩ := k.sl
  obtain ⟨v, h1, _, h2, h3⟩ := o1 i _ _ hi
  obtain ⟨a, c', dx, fs, fq, rfl, hc, ho, _, hw, _⟩ := ow_ins h2
  have hn := owf_zip hl hl2 hw
  obtain ⟨g, u, fa, fb, p1, p2, p3, _⟩ := owf_focus hl hl2 hw hs hd
  obtain ⟨C, e1, cl, na⟩ := c.ex
  rw [e1] at hc; cases hc
  have hu : (fs.map (·.2))[j]? = some u := by rw [List.getElem?_map, p2]; rfl
  exact ⟨_, h1, a, _, dx, fs, u, rfl, ho, cl, na f hf, (look_idx hn hj).trans hu, okH q u H F fa (Same.refl H) (Ext.refl F H) k.sub p3 fun z => nomatch z⟩
theorem vr_fldB (c : ClsI X.K W cn fl) (hf : f ∈ fl) (hj : idxS f ns = some j) (h : PE X e (tVar i)) (hi : ρ i = .vl (.bw (.ins cn (zipS ns ss)) r) (insV cn ns ds)) (hd : ds[j]? = some (en x)) (hs : ss[j]? = some s) (hl : ns.length = ds.length := by rfl) (hl2 : ns.length = ss.length := by rfl) (hb : attributeBase e f X.env (eval e X.env) = eval e X.env := by rfl) :
    VR X W E ρ b0 s (.Attribute e f pos) (.ok x) := (pe_fld h hb).wk fun σ H Q ⟨H0, F, k, q⟩ => by
  obtain ⟨fp, o1, _⟩ := k.sl
  obtain ⟨v, h1, _, h2, h3⟩ := o1 i _ _ hi
  obtain ⟨a, c', dx, fs, fq, rfl, hc, ho, efp, hw, _⟩ := ow_ins h2
  have hn := owf_zip hl hl2 hw
  obtain ⟨g, u, fa, fb, p1, p2, p3, p4, _⟩ := owf_focus hl hl2 hw hs hd
  obtain ⟨C, e1, cl, na⟩ := c.ex
  rw [e1] at hc; cases hc
  have hu : (fs.map (·.2))[j]? = some u := by rw [List.getElem?_map, p2]; rfl
  exact ⟨_, h1, a, _, dx, fs, u, rfl, ho, cl, na f hf, (look_idx hn hj).trans hu, okH q u H F fa (Same.refl H) (Ext.refl F H) k.sub p3 fun _ b hb => (h3 b (by rw [efp]; exact List.mem_cons_of_mem _ ((p4 b).mpr (.inl hb)))).2⟩
/-- an item of a list that may be read -/
theorem vr_ix {b : Expr} {m : R (List β)} {n : R Int} (ha : VR X W E ρ b0 (.lst s) e m) (hb : VE X W E ρ .frz b n) (hs : PlainIx b := by exact fun _ _ => rfl) : VR X W E ρ b0 s (.Subscript e b pos) (m.bind fun x => n.bind fun y => ixR x y) :=
  (pe_ix ix_list ha hb hs).wk fun σ H Q ⟨H0, F, k, q⟩ => ⟨H0, F, k, (hd_bind q).imp fun l q1 v H1 F1 fp s1 x1 f1 w1 n1 => ⟨H0, F1, k.grow s1 x1 f1, ((hd_bind q1).heap s1).imp fun j q2 u H2 F2 fq s2 x2 f2 w2 _ => by
    have ej := int_rp w2.toRp.2
    subst ej
    have w1' : Ow X.K W.rc F1 H1 (.lst s) v (.list (l.map en)) fp := w1
    cases w1' with
    | sc z _ => cases z
    | lst z1 z2 z3 =>
      rename_i p xs fx
      have len := z2.len
      rw [List.length_map] at len
      unfold ixR at q2
      cases hk : ixAt l.length j with
      | none => rw [hk] at q2; exact q2.elim
      | some kx =>
        rw [hk] at q2
        cases hx : l[kx]? with
        | none => simp only [hx] at q2; exact q2.elim
        | some y =>
          simp only [hx] at q2
          have e : (l.map en)[kx]? = some (en y) := by rw [List.getElem?_map, hx]; rfl
          obtain ⟨vc, fc, fd, y1, y2, y3, y4, y5⟩ := z2.focus e
          refine ⟨p, xs, j, vc, rfl, rfl, SqL.of (s2 _ _ z1), ?_, ?_⟩
          · show (ixN xs.length j).bind (fun j => xs[j]?) = some vc
            have : ixN xs.length j = some kx := by rw [len]; exact hk
            rw [this]; exact y1
          · refine okH q2 vc H2 F2 fc (s1.trans s2) (x1.trans s1 x2) f2 (y2.mono x2.up fun a ha => ?_) fun hb a ha => n1 hb a (List.mem_cons_of_mem _ ((y3 a).mpr (.inl ha)))
            obtain ⟨o, e⟩ := y2.live a ha
            exact (s2 a o e).trans e.symm⟩⟩
end
/-! ### methods and classes, called -/
/-- a method that reads -/
structure CalM {A β : Type} [EnL A] [En β] (P : Program) (w : World) (K : PySem.W.Frag) (mg : Str → Option Value) (base : Heap) (W : Vp) (cn nm : Str) (k : Nat) (f : A → R β) (s : Sh) : Prop where
  ex : ∃ (C fa : Addr) (fd : FuncData) (ps : List Str), W.rc.cl cn = some C ∧ Cls K C ∧ Meth K C nm fa ∧ Binds K fd ps [] ∧ FnG P w K mg base k fa fd ps (spT K W f s)
/-- a method that changes its own object (A is Unit), or an argument -/
structure CalI {A B β δ ε : Type} [EnL A] [EnL B] [En β] [En δ] [En ε] (P : Program) (w : World) (K : PySem.W.Frag) (mg : Str → Option Value) (base : Heap) (W : Vp) (cn nm : Str) (k : Nat) (s1 : Sh) (f : A → δ → B → R (β × ε)) (s s2 : Sh) : Prop where
  ex : ∃ (C fa : Addr) (fd : FuncData) (ps : List Str), W.rc.cl cn = some C ∧ Cls K C ∧ Meth K C nm fa ∧ Binds K fd ps [] ∧ FnG P w K mg base k fa fd ps (spI K W s1 f s s2)
/-- an instance without attributes -/
structure I0 (cn : Str) where
  mk ::
instance {cn : Str} : En (I0 cn) := ⟨fun _ => insV cn [] []⟩
/-- a class whose instances are made -/
structure CalK {B σ : Type} [EnL B] [En σ] (P : Program) (w : World) (K : PySem.W.Frag) (mg : Str → Option Value) (base : Heap) (W : Vp) (cn : Str) (k : Nat) (f : B → R σ) (ss : List (Str × Sh)) : Prop where
  ex : ∃ (C fa : Addr) (fd : FuncData) (ps : List Str), W.rc.cl cn = some C ∧ mg cn = some (.ref C) ∧ Mk K C fa ∧ Binds K fd ps [] ∧ FnG P w K mg base k fa fd ps (spI K W (.ins cn []) (fun (_ : Unit) (_ : I0 cn) (b : B) => (f b).map fun s => ((), s)) .frz (.ins cn ss))
def tMethS (C : Addr) (m : Str) (sp : Sp) (E : L2.St → XK) (ta : TE) (t : TA) : TE := fun σ H Q => ta σ H fun x H1 => ∃ a dx fs, x = .ref a ∧ H1 a = some (.ins C dx fs) ∧ fs.lookup m = none ∧ t σ H1 fun vs H2 => sp (x :: vs) H2 Q (E σ)
def tMakeS (C : Addr) (sp : Sp) (E : L2.St → XK) (t : TA) : TE := fun σ H Q => t σ H fun vs H1 => ∀ x dx, H1 x = none → H1 dx = none → dx ≠ x →
  sp (.ref x :: vs) (upd (upd H1 dx (.own x)) x (.ins C dx [])) (fun v H2 => v = .non ∧ Q (.ref x) H2) (E σ)
section
variable {X : Cx} {k : Nat} {f C : Addr} {fd : FuncData} {ps : List Str} {sp : Sp} {E : L2.St → XK} {x m : Str} {p pos apos : Pos} {e o : Expr} {es : List Expr} {t : TA} {ta : TE}
theorem pe_methG {pl : Sem Bool} (he : PE X o ta) (c : Cls X.K C) (hm : Meth X.K C m f) (F : FnG X.prog X.w X.K X.mg X.base k f fd ps sp) (hr : Rm k X.A) (hb : Binds X.K fd ps []) (hx : ∀ σ, PassesAt (L2.CX X.prog X.w) X σ (E σ)) (ha : PA X (e :: es) t)
    (hst : starEach (e :: es) X.env = (false, eval e X.env) :: starEach es X.env := by rfl) (hpl : (backTo pos (starEach es X.env)).any (·.1) = false := by rfl)
    (ht : eval (.Call (.Attribute o m apos) (e :: es) [] pos) X.env = (do
      let ov ← eval o X.env
      standAt apos.atName
      let (f, first) ← holding [ov] (getMethod ov m pl)
      callWith pos f first (backTo pos (starEach (e :: es) X.env)) (backToKw pos (keywordEach [] X.env))) := by rfl) :
    PE X (.Call (.Attribute o m apos) (e :: es) [] pos) (tMethS C m sp E ta t) := by
  refine ⟨fun pins s σ H Q I h => ?_⟩
  refine PySem.W.methodCall_KW (pl := pl) (thn (he.run pins s σ H _ I h) fun u s1 ⟨x, H1, I1, rx, a, dx, fs, ex, ea, l, q⟩ => ?_) ht
  subst ex
  obtain rfl : u = Value.ref a := rx
  refine getmeth_ok I1 ea c hm l ?_
  refine PySem.W.callWith_K (first := [.ref a]) (h₀ := X.base) I.ok.mod.kin hm.kp (thn (ha.run pos pins s1 σ H1 _ I1 q) fun us s2 ⟨vs, H2, I2, r, q2⟩ => ⟨I2.kIn, ?_⟩) hst hpl
  exact run_fnG (us := .ref a :: us) (vs := .ref a :: vs) F hr hb (hx σ) I2 (.cons rfl r) q2
theorem pe_meth0G {pl : Sem Bool} (he : PE X o ta) (c : Cls X.K C) (hm : Meth X.K C m f) (F : FnG X.prog X.w X.K X.mg X.base k f fd ps sp) (hr : Rm k X.A) (hb : Binds X.K fd ps []) (hx : ∀ σ, PassesAt (L2.CX X.prog X.w) X σ (E σ))
    (ht : eval (.Call (.Attribute o m apos) [] [] pos) X.env = (do
      let ov ← eval o X.env
      standAt apos.atName
      let (f, first) ← holding [ov] (getMethod ov m pl)
      callWith pos f first (backTo pos (starEach [] X.env)) (backToKw pos (keywordEach [] X.env))) := by rfl) :
    PE X (.Call (.Attribute o m apos) [] [] pos) (tMethS C m sp E ta tNil) := by
  refine ⟨fun pins s σ H Q I h => ?_⟩
  refine PySem.W.methodCall_KW (pl := pl) (thn (he.run pins s σ H _ I h) fun u s1 ⟨x, H1, I1, rx, a, dx, fs, ex, ea, l, q⟩ => ?_) ht
  subst ex
  obtain rfl : u = Value.ref a := rx
  refine getmeth_ok I1 ea c hm l ?_
  exact PySem.W.callWith_K0 (first := [.ref a]) I1.kIn hm.kp (run_fnG (us := [.ref a]) (vs := [.ref a]) F hr hb (hx σ) I1 (.cons rfl .nil) q)
theorem pe_makeG (M : Mk X.K C f) (F : FnG X.prog X.w X.K X.mg X.base k f fd ps sp) (hr : Rm (k + 1) X.A) (hg : Gl X x) (hm : X.mg x = some (.ref C)) (hb : Binds X.K fd ps []) (hx : ∀ σ, PassesAt (L2.CX X.prog X.w) X σ (E σ))
    (ha : PA X (e :: es) t) (hdb : (x == ("__debug__" : Str)) = false := by decide) (he : starEach (e :: es) X.env = (false, eval e X.env) :: starEach es X.env := by rfl) (hpl : (backTo pos (starEach es X.env)).any (·.1) = false := by rfl) :
    PE X (.Call (.Name x p) (e :: es) [] pos) (tMakeS C sp E t) := by
  refine ⟨fun pins s σ H Q I h => ?_⟩
  refine wpAny_Call_Name_kw (ld_glob I hg hm ?_ hdb)
  refine PySem.W.callWith_K (h₀ := X.base) I.ok.mod.kin M.kp (thn (ha.run pos pins s σ H _ I h) fun us s ⟨vs, H, I, r, h⟩ => ⟨I.kIn, ?_⟩) he hpl
  have hq := h (s.heap.objs.size + 1) s.heap.objs.size (I.hok.fresh (Nat.le_succ _)) (I.hok.fresh (Nat.le_refl _)) (Nat.ne_of_lt (Nat.lt_succ_self _))
  have I2 := Inv.made (C := C) I
  have r2 : Vals (V.ref (s.heap.objs.size + 1) :: vs) (Value.ref (s.heap.objs.size + 1) :: us) := .cons rfl r
  have hl : (Value.ref (s.heap.objs.size + 1) :: us).length = ps.length := by
    have e := r2.length
    rw [F.len _ _ _ _ hq] at e
    exact e.symm
  have bd := hb _ (Value.ref (s.heap.objs.size + 1) :: us) I2.kIn ((congrArg List.length (List.append_nil _)).trans hl)
  rw [List.append_nil] at bd
  refine wpAny_call (make_map (f := f) I.kIn M.makes M.init (beq_iff_eq.mp M.fn) (codeAny_mono (F.run _ X.stack _ _ ⟨Value.ref (s.heap.objs.size + 1) :: us, []⟩ (Value.ref (s.heap.objs.size + 1) :: us) _ _ _ ⟨hr.room.make C us [], hr.gds⟩
    (I2.env0.make C us []) bd r2 hq) fun r s' hq' => ?_))
  cases r with
  | error e => exact hx σ pins _ _ e s' I2 hq'
  | ok fl =>
    cases fl with
    | ret u =>
      obtain ⟨v, H', I3, rv, ev, q3⟩ := I2.after hq'
      subst ev
      exact ⟨rv, ⟨V.ref (s.heap.objs.size + 1), H', I3, rfl, q3⟩⟩
    | next => exact False.elim hq'
    | brk => exact False.elim hq'
    | cont => exact False.elim hq'
end
section
variable {X : Cx} {W : Vp} {E : L2.St → XK} {ρ : Env} {s : Sh} {A B β σ : Type} [EnL B] [En β] [En σ] {j k : Nat} {nm cn : Str} {p pos apos : Pos} {e o : Expr} {es : List Expr}
/-- o.m(e, ..) of a frozen object -/
theorem ve_meth {f : σ × B → R β} {m : R σ} {n : R B} {ns : List Str} (vs : σ → List D) (c : CalM X.prog X.w X.K X.mg X.base W cn nm j f s) (hr : Rm k X.A) (hx : ∀ σ, PassesAt (L2.CX X.prog X.w) X σ (E σ)) (ho : VE X W E ρ .frz o m) (ha : VA X W E ρ .frz (e :: es) n) (hs : ∀ x, en x = insV cn ns (vs x)) (hl : ∀ x, ns.length = (vs x).length) (hno : nm ∉ ns) (hj : j ≤ k := by decide)
    (hst : starEach (e :: es) X.env = (false, eval e X.env) :: starEach es X.env := by rfl) (hpl : (backTo pos (starEach es X.env)).any (·.1) = false := by rfl) {pl : Sem Bool}
    (ht : eval (.Call (.Attribute o nm apos) (e :: es) [] pos) X.env = (do
      let ov ← eval o X.env
      standAt apos.atName
      let (f, first) ← holding [ov] (getMethod ov nm pl)
      callWith pos f first (backTo pos (starEach (e :: es) X.env)) (backToKw pos (keywordEach [] X.env))) := by rfl) :
    VE X W E ρ s (.Call (.Attribute o nm apos) (e :: es) [] pos) (m.bind fun x => n.bind fun y => f (x, y)) := by
  obtain ⟨C, fa, fd, ps, hc, cl, hm, hb, F⟩ := c.ex
  exact (pe_methG (E := E) ho cl hm F (hr.mono hj) hb hx ha hst hpl ht).wk fun σ0 H Q ⟨H0, F0, kk, q⟩ => ⟨H0, F0, kk, (hd_bind q).imp fun x q1 v H1 F1 fp s1 x1 f1 w1 _ => by
    have r1 := w1.toRp.2
    have r0 := r1
    rw [hs] at r1
    obtain ⟨a', c', dx, fs, rfl, hc', ho', hn, r2⟩ := rp_ins (hl x) r1
    rw [hc] at hc'; cases hc'
    refine ⟨a', dx, fs, rfl, f1 _ _ ho', look_none (by rw [hn]; exact hno), H0, F1, kk.grow s1 x1 f1, ((hd_bind q1).heap s1).imp fun y q2 us H2 F2 fq s2 x2 f2 w2 _ => ?_⟩
    exact ⟨F2, (x, y), f2, .cons (r0.up x2.up) w2.toRp.2, (q2.heap (s1.trans s2)).imp fun d q => q.step (s1.trans s2) (x1.trans s1 x2)⟩⟩
theorem ve_meth0 {f : σ × Unit → R β} {m : R σ} {ns : List Str} (vs : σ → List D) (c : CalM X.prog X.w X.K X.mg X.base W cn nm j f s) (hr : Rm k X.A) (hx : ∀ σ, PassesAt (L2.CX X.prog X.w) X σ (E σ)) (ho : VE X W E ρ .frz o m) (hs : ∀ x, en x = insV cn ns (vs x)) (hl : ∀ x, ns.length = (vs x).length) (hno : nm ∉ ns) (hj : j ≤ k := by decide) {pl : Sem Bool}
    (ht : eval (.Call (.Attribute o nm apos) [] [] pos) X.env = (do
      let ov ← eval o X.env
      standAt apos.atName
      let (f, first) ← holding [ov] (getMethod ov nm pl)
      callWith pos f first (backTo pos (starEach [] X.env)) (backToKw pos (keywordEach [] X.env))) := by rfl) :
    VE X W E ρ s (.Call (.Attribute o nm apos) [] [] pos) (m.bind fun x => f (x, ())) := by
  obtain ⟨C, fa, fd, ps, hc, cl, hm, hb, F⟩ := c.ex
  exact (pe_meth0G (E := E) ho cl hm F (hr.mono hj) hb hx ht).wk fun σ0 H Q ⟨H0, F0, kk, q⟩ => ⟨H0, F0, kk, (hd_bind q).imp fun x q1 v H1 F1 fp s1 x1 f1 w1 _ => by
    have r1 := w1.toRp.2
    have r0 := r1
    rw [hs] at r1
    obtain ⟨a', c', dx, fs, rfl, hc', ho', hn, r2⟩ := rp_ins (hl x) r1
    rw [hc] at hc'; cases hc'
    refine ⟨a', dx, fs, rfl, f1 _ _ ho', look_none (by rw [hn]; exact hno), ?_⟩
    exact ⟨F1, (x, ()), f1, .cons r0 .nil, (q1.heap s1).imp fun d q => q.step s1 x1⟩⟩
/-- C(e, ..) -/
theorem ve_make {f : B → R σ} {n : R B} {ss : List (Str × Sh)} (c : CalK X.prog X.w X.K X.mg X.base W cn j f ss) (hr : Rm k X.A) (hx : ∀ σ, PassesAt (L2.CX X.prog X.w) X σ (E σ)) (ha : VA X W E ρ .frz (e :: es) n) (hj : j + 1 ≤ k := by decide) (hg : Gl X cn := by rfl)
    (hdb : (cn == ("__debug__" : Str)) = false := by decide) (he : starEach (e :: es) X.env = (false, eval e X.env) :: starEach es X.env := by rfl) (hpl : (backTo pos (starEach es X.env)).any (·.1) = false := by rfl) :
    VE X W E ρ (.ins cn ss) (.Call (.Name cn p) (e :: es) [] pos) (n.bind f) := by
  obtain ⟨C, fa, fd, ps, hc, hmg, M, hb, F⟩ := c.ex
  exact (pe_makeG (E := E) M F (hr.mono hj) hg hmg hb hx ha hdb he hpl).wk fun σ0 H Q ⟨H0, F0, kk, q⟩ => ⟨H0, F0, kk, (hd_bind q).imp fun y q1 us H1 F1 fp s1 x1 f1 w1 _ => by
    intro x dx nx ndx ne
    let H2 : Hp := upd (upd H1 dx (.own x)) x (.ins C dx [])
    have up12 : Same H1 (hid H2 [x]) := fun a o e => by
      have na : a ≠ x := fun z => by rw [z, nx] at e; cases e
      rw [hid_out (by simpa using na)]
      show upd (upd H1 dx (.own x)) x (.ins C dx []) a = some o
      rw [upd_ne na, upd_ne (fun z => by rw [z, ndx] at e; cases e)]
      exact e
    have F1x : F1 x = none := none_back f1 nx
    have sF : Same F1 H2 := fun a o e => by
      have := up12 a o (f1 a o e)
      rw [hid_out (fun z => by rw [List.mem_singleton.mp z, F1x] at e; cases e)] at this
      exact this
    have z1 : H2 x = some (.ins C dx []) := upd_same
    refine ⟨F1, [], .ref x, us, (), I0.mk, y, [x], rfl, sF, .ins hc z1 .nil (by simp), fun a ha => by rw [List.mem_singleton.mp ha]; exact F1x, .nil, w1.toRp.2, hd_unmap ?_⟩
    refine (q1.heap (s1.trans up12)).imp fun d q2 v H3 F3 fp3 fr s3 x3 f3 wv wr n3 n4 _ => ?_
    have ev : v = .non := by
      have r := wv.toRp.2
      have r : Rp X.K W.rc F3 v .none := r
      cases r; rfl
    refine ⟨ev, ?_⟩
    have wr : Ow X.K W.rc F3 H3 (.ins cn ss) (.ref x) (en d) fr := wr
    exact q2 (.ref x) H3 F3 fr ((s1.trans up12).trans s3) ((x1.trans (s1.trans up12) x3)) f3 wr fun a ha => ⟨none_back (s1.trans up12) (n4 a ha).1, (n4 a ha).2⟩⟩
end
end Tx

set_option Elab.async false
set_option linter.all false
set_option maxRecDepth 100000
set_option maxHeartbeats 4000000
/-! A19: methods that change their object, fields that are stored, bodies of such defs. -/
namespace Tx
open PySem L2 PyProof.Rows En EnL

section
variable {X : Cx} {W : Vp} {E : L2.St → XK} {ρ : Env} {s s1 s2 s' : Sh} {e o : Expr} {es : List Expr} {p pos pos' apos cpos : Pos} {i : Nat} {B β β' δ ε α γ : Type} [EnL B] [En β'] [En δ] [En ε] [En α] [En γ] {cn nm f : Str} {ns fl : List Str} {ss : List Sh} {ds : List D} {j k : Nat} {r : Option V} {out : β → Out} {rest : List Stmt}
/-- o.m(e, ..) as a statement: the object of slot i is changed -/
theorem vb_methI {g : Unit → δ → B → R (β' × ε)} {n : R B} {m' : R ε} {kk : ε → R β} {z : δ} (c : CalI X.prog X.w X.K X.mg X.base W cn nm j (.ins cn (zipS ns ss)) g .frz s2) (hr : Rm k X.A) (hx : ∀ σ, PassesAt (L2.CX X.prog X.w) X σ (E σ)) (hi : ρ i = .vl (.ow (.ins cn (zipS ns ss)) r) (en z)) (ho : PE X o (tVar i)) (ha : VA X W E ρ .frz (e :: es) n)
    (hz : en z = insV cn ns ds) (hl : ns.length = ds.length) (hl2 : ns.length = ss.length) (hno : nm ∉ ns) (q : (n.bind fun y => (g () z y).bind fun p => .ok p.2) = m') (hrest : ∀ w : ε, VB X W E (se ρ i (.vl (.ow s2 r) (en w))) rest (kk w) out) (hj : j ≤ k := by decide)
    (hst : starEach (e :: es) X.env = (false, eval e X.env) :: starEach es X.env := by rfl) (hpl : (backTo pos (starEach es X.env)).any (·.1) = false := by rfl) {pl : Sem Bool}
    (ht : eval (.Call (.Attribute o nm apos) (e :: es) [] pos) X.env = (do
      let ov ← eval o X.env
      standAt apos.atName
      let (f, first) ← holding [ov] (getMethod ov nm pl)
      callWith pos f first (backTo pos (starEach (e :: es) X.env)) (backToKw pos (keywordEach [] X.env))) := by rfl)
    (hsw : swapsWith (.Call (.Attribute o nm apos) (e :: es) [] pos) none pos'.line X.env = pure false := by rfl) :
    VB X W E ρ (.Expr (.Call (.Attribute o nm apos) (e :: es) [] pos) pos' :: rest) (m'.bind kk) out := by
  obtain ⟨C, fa, fd, ps, hc, cl, hm, hb, Fg⟩ := c.ex
  subst q
  simp only [R.bind_assoc, R.okb]
  refine (pss_cons (ps_expr (pe_methG (E := E) ho cl hm Fg (hr.mono hj) hb hx ha hst hpl ht) hsw) (pss_any hrest)).wk fun De σ H ⟨H0, F0, F, k0, x, q⟩ => ?_
  obtain ⟨v, fp, ow⟩ := k0.own hi
  have wi := ow.ow
  rw [hz] at wi
  obtain ⟨a, c', dx, fs, fq, ev, hc', ho', efp, hw, na⟩ := ow_ins wi
  subst ev
  rw [hc] at hc'; cases hc'
  have hn := owf_zip hl hl2 hw
  refine ⟨_, ow.at_, a, dx, fs, rfl, ho', look_none (by rw [hn]; exact hno), H0, F, k0, ((hds_bind q).hd σ k0.same).imp fun y q1 us H1 F1 fp1 s1' x1 f1 w1 _ => ?_⟩
  have o1 := ow.up s1' x1 f1
  have sH : Same H0 (hid H1 fp) := hid_same (k0.same.trans s1') fun b hb => (ow.fre b hb).2
  refine ⟨F1, [], .ref a, us, (), z, y, fp, rfl, f1, o1.ow, fun b hb => (o1.fre b hb).1, .nil, w1.toRp.2, ?_⟩
  refine ((hds_bind q1).hd σ sH).imp fun pr q2 v' H' F' fr fr2 s3 x3 f3 wv wz nv nz nd => ?_
  exact ⟨pr.2, H0, F0, F', o1.put F1 H1 F' H' s2 (en pr.2) fr2 (Same.refl H1) (Ext.refl F1 H1) f1 s3 f3 x3 wz nz, (x.trans k0.same x1).trans sH x3, q2⟩
/-- o.m() -/
theorem vb_methI0 {g : Unit → δ → Unit → R (β' × ε)} {m' : R ε} {kk : ε → R β} {z : δ} (c : CalI X.prog X.w X.K X.mg X.base W cn nm j (.ins cn (zipS ns ss)) g .frz s2) (hr : Rm k X.A) (hx : ∀ σ, PassesAt (L2.CX X.prog X.w) X σ (E σ)) (hi : ρ i = .vl (.ow (.ins cn (zipS ns ss)) r) (en z)) (ho : PE X o (tVar i))
    (hz : en z = insV cn ns ds) (hl : ns.length = ds.length) (hl2 : ns.length = ss.length) (hno : nm ∉ ns) (q : ((g () z ()).bind fun p => .ok p.2) = m') (hrest : ∀ w : ε, VB X W E (se ρ i (.vl (.ow s2 r) (en w))) rest (kk w) out) (hj : j ≤ k := by decide) {pl : Sem Bool}
    (ht : eval (.Call (.Attribute o nm apos) [] [] pos) X.env = (do
      let ov ← eval o X.env
      standAt apos.atName
      let (f, first) ← holding [ov] (getMethod ov nm pl)
      callWith pos f first (backTo pos (starEach [] X.env)) (backToKw pos (keywordEach [] X.env))) := by rfl)
    (hsw : swapsWith (.Call (.Attribute o nm apos) [] [] pos) none pos'.line X.env = pure false := by rfl) :
    VB X W E ρ (.Expr (.Call (.Attribute o nm apos) [] [] pos) pos' :: rest) (m'.bind kk) out := by
  obtain ⟨C, fa, fd, ps, hc, cl, hm, hb, Fg⟩ := c.ex
  subst q
  simp only [R.bind_assoc, R.okb]
  refine (pss_cons (ps_expr (pe_meth0G (E := E) ho cl hm Fg (hr.mono hj) hb hx ht) hsw) (pss_any hrest)).wk fun De σ H ⟨H0, F0, F, k0, x, q⟩ => ?_
  obtain ⟨v, fp, ow⟩ := k0.own hi
  have wi := ow.ow
  rw [hz] at wi
  obtain ⟨a, c', dx, fs, fq, ev, hc', ho', efp, hw, na⟩ := ow_ins wi
  subst ev
  rw [hc] at hc'; cases hc'
  have hn := owf_zip hl hl2 hw
  refine ⟨_, ow.at_, a, dx, fs, rfl, ho', look_none (by rw [hn]; exact hno), ?_⟩
  have sH : Same H0 (hid H fp) := hid_same k0.same fun b hb => (ow.fre b hb).2
  refine ⟨F, [], .ref a, [], (), z, (), fp, rfl, k0.sub, ow.ow, fun b hb => (ow.fre b hb).1, .nil, .nil, ?_⟩
  refine ((hds_bind q).hd σ sH).imp fun pr q2 v' H' F' fr fr2 s3 x3 f3 wv wz nv nz nd => ?_
  exact ⟨pr.2, H0, F0, F', ow.put F H F' H' s2 (en pr.2) fr2 (Same.refl H) (Ext.refl F H) k0.sub s3 f3 x3 wz nz, x.trans sH x3, q2⟩
/-- o.m(x, e, ..) as a statement: o is frozen, x stands in slot i and is changed -/
theorem vb_methA {σ : Type} [En σ] {g : σ × Unit → δ → B → R (β' × ε)} {mo : R σ} {n : R B} {m' : R ε} {kk : ε → R β} {z : δ} {ex : Expr} (vs : σ → List D) (c : CalI X.prog X.w X.K X.mg X.base W cn nm j s1 g .frz s2) (hr : Rm k X.A) (hx : ∀ σ, PassesAt (L2.CX X.prog X.w) X σ (E σ)) (hi : ρ i = .vl (.ow s1 r) (en z)) (ho : VE X W E ρ .frz o mo) (hex : PE X ex (tVar i)) (ha : VA X W E ρ .frz es n)
    (hs : ∀ x, en x = insV cn ns (vs x)) (hl : ∀ x, ns.length = (vs x).length) (hno : nm ∉ ns) (q : (mo.bind fun x => n.bind fun y => (g (x, ()) z y).bind fun p => .ok p.2) = m') (hrest : ∀ w : ε, VB X W E (se ρ i (.vl (.ow s2 r) (en w))) rest (kk w) out) (hj : j ≤ k := by decide)
    (hst : starEach (ex :: es) X.env = (false, eval ex X.env) :: starEach es X.env := by rfl) (hpl : (backTo pos (starEach es X.env)).any (·.1) = false := by rfl) {pl : Sem Bool}
    (ht : eval (.Call (.Attribute o nm apos) (ex :: es) [] pos) X.env = (do
      let ov ← eval o X.env
      standAt apos.atName
      let (f, first) ← holding [ov] (getMethod ov nm pl)
      callWith pos f first (backTo pos (starEach (ex :: es) X.env)) (backToKw pos (keywordEach [] X.env))) := by rfl)
    (hsw : swapsWith (.Call (.Attribute o nm apos) (ex :: es) [] pos) none pos'.line X.env = pure false := by rfl) :
    VB X W E ρ (.Expr (.Call (.Attribute o nm apos) (ex :: es) [] pos) pos' :: rest) (m'.bind kk) out := by
  obtain ⟨C, fa, fd, ps, hc, cl, hm, hb, Fg⟩ := c.ex
  subst q
  simp only [R.bind_assoc, R.okb]
  refine (pss_cons (ps_expr (pe_methG (E := E) ho cl hm Fg (hr.mono hj) hb hx (pa_cons hex ha hst) hst hpl ht) hsw) (pss_any hrest)).wk fun De σ0 H ⟨H0, F0, F, k0, x, q⟩ => ?_
  refine ⟨H0, F, k0, ((hds_bind q).hd σ0 k0.same).imp fun y q1 u H1 F1 fp1 s1' x1 f1 w1 _ => ?_⟩
  have r1 := w1.toRp.2
  have r0 := r1
  rw [hs] at r1
  obtain ⟨a, c', dx, fs, ev, hc', ho', hn, r2⟩ := rp_ins (hl y) r1
  subst ev
  rw [hc] at hc'; cases hc'
  have k1 := k0.grow s1' x1 f1
  obtain ⟨v, fp, ow⟩ := k1.own hi
  refine ⟨a, dx, fs, rfl, f1 _ _ ho', look_none (by rw [hn]; exact hno), v, ow.at_, H0, F1, k1, ((hds_bind q1).hd σ0 k1.same).imp fun w q2 us H2 F2 fp2 s2' x2 f2 w2 _ => ?_⟩
  have o1 := ow.up s2' x2 f2
  have sH : Same H0 (hid H2 fp) := hid_same (k1.same.trans s2') fun b hb => (ow.fre b hb).2
  refine ⟨F2, [.ref a], v, us, (y, ()), z, w, fp, rfl, f2, o1.ow, fun b hb => (o1.fre b hb).1, .cons (r0.up x2.up) .nil, w2.toRp.2, ?_⟩
  refine ((hds_bind q2).hd σ0 sH).imp fun pr q3 v' H' F' fr fr2 s3 x3 f3 wv wz nv nz nd => ?_
  exact ⟨pr.2, H0, F0, F', o1.put F2 H2 F' H' s2 (en pr.2) fr2 (Same.refl H2) (Ext.refl F2 H2) f2 s3 f3 x3 wz nz, ((x.trans k0.same x1).trans k1.same x2).trans sH x3, q3⟩
/-! ### o.f = e -/
theorem fld_put {H0 F H F1 H1 : Hp} {L : Nat} {σ : L2.St} {a C dx : Addr} {fs : List (Str × V)} {fp fq fr : List Addr} {y : V} {d d' : D} (k0 : EnvS X.K W.rc H0 F H L σ ρ) (o : Own X.K W.rc H0 F H L σ ρ i s1 r d (.ref a) fp) (s1' : Same H H1) (x1 : Ext F H F1) (f1 : Same F1 H1) (ho : HO)
    (ha : a ∈ fp) (w : Ow X.K W.rc F1 (upd H1 a ho) s2 (.ref a) d' fr) (hfr : ∀ b ∈ fr, b ∈ fp ∨ (H b = none ∧ F1 b = none)) : EnvS X.K W.rc H0 F1 (upd H1 a ho) L σ (se ρ i (.vl (.ow s2 r) d')) := by
  have nF : ∀ b ∈ fp, F1 b = none := fun b hb => by
    obtain ⟨u, e⟩ := o.ow.live b hb
    exact x1.out e (o.fre b hb).1
  refine o.put F H F1 (upd H1 a ho) s2 d' fr (Same.refl H) (Ext.refl F H) k0.sub (fun b u e => ?_) (fun b u e => ?_) ⟨x1.up, fun b u e => ?_⟩ w fun b hb => ?_
  · by_cases y : b ∈ fp
    · rw [hid_in y] at e; cases e
    · rw [hid_out y] at e
      rw [upd_ne fun z => y (by rw [z]; exact ha)]
      exact s1' b u e
  · rw [upd_ne fun z => by rw [z, nF a ha] at e; cases e]
    exact f1 b u e
  · refine (x1.new b u e).imp id fun n => ?_
    by_cases y : b ∈ fp
    · exact hid_in y
    · rw [hid_out y]; exact n
  · rcases hfr b hb with h | h
    · exact ⟨hid_in h, nF b h⟩
    · refine ⟨?_, h.2⟩
      by_cases y : b ∈ fp
      · exact hid_in y
      · rw [hid_out y]; exact h.1
/-- a field that is there -/
theorem vb_fldX {m : R α} {kk : α → R β} {dj : D} {sj : Sh} (c : ClsI X.K W cn fl) (hf : f ∈ fl) (hj : idxS f ns = some j) (h : PE X o (tVar i)) (hi : ρ i = .vl (.ow (.ins cn (zipS ns ss)) r) (insV cn ns ds)) (hd : ds[j]? = some dj) (hs : ss[j]? = some sj) (he : VE X W E ρ s2 e m)
    (hrest : ∀ x, VB X W E (se ρ i (.vl (.ow (.ins cn (zipS ns (ss.set j s2))) r) (insV cn ns (ds.set j (en x))))) rest (kk x) out) (hl : ns.length = ds.length := by rfl) (hl2 : ns.length = ss.length := by rfl) (hn : ns.length < 1000 := by decide) (hsw : swapsWith e (some (.Attribute o f pos')) pos.line X.env = pure false := by rfl) :
    VB X W E ρ (.Assign [.Attribute o f pos'] e pos :: rest) (m.bind kk) out := (pss_cons (ps_fld h he hsw) (pss_any hrest)).wk fun De σ H ⟨H0, F0, F, k0, x, q⟩ => by
  refine ⟨H0, F, k0, ((hds_bind q).hd σ k0.same).imp fun y q1 u H1 F1 fq s1' x1 f1 w1 n1 => ?_⟩
  obtain ⟨v, fp, ow⟩ := k0.own hi
  obtain ⟨a, c', dx, fs, fz, ev, hc', ho', efp, hw, na⟩ := ow_ins ow.ow
  subst ev
  have hnm := owf_zip hl hl2 hw
  obtain ⟨C, e1, cl, nat⟩ := c.ex
  rw [e1] at hc'; cases hc'
  have lf : fs.length = ns.length := by rw [← hnm, List.length_map]
  refine ⟨_, ow.at_, a, _, dx, fs, rfl, s1' _ _ ho', cl, nat f hf, by omega, y, H0, F0, F1, ?_, x.trans k0.same x1, q1⟩
  obtain ⟨g, v0, fa, fb, p1, p2, p3, p4, p5, p6⟩ := owf_focus hl hl2 hw hs hd
  have eg : g = f := by have := idx_lt hj; rw [p1] at this; cases this; rfl
  subst eg
  have nq : ∀ b ∈ fq, b ≠ a ∧ b ∉ fz := fun b hb => by
    have hb' := (n1 b hb).1
    refine ⟨(fun z => by rw [z, ho'] at hb'; cases hb'), fun z => ?_⟩
    obtain ⟨o', e'⟩ := ow.ow.live b (by rw [efp]; exact List.mem_cons_of_mem _ z)
    rw [hb'] at e'; cases e'
  have keep : ∀ b ∈ fz, upd H1 a (.ins c' dx (putF g u fs)) b = H b := fun b hb => by
    rw [upd_ne fun z => by rw [z] at hb; exact na hb]
    obtain ⟨o', e'⟩ := ow.ow.live b (by rw [efp]; exact List.mem_cons_of_mem _ hb)
    exact (s1' b o' e').trans e'.symm
  obtain ⟨fr, r1, r2⟩ := p6 F1 (upd H1 a (.ins c' dx (putF g u fs))) s2 u (en y) fq x1.up (fun b hb => keep b ((p4 b).mpr (.inr hb))) (w1.mono (Same.refl F1) fun b hb => upd_ne (nq b hb).1) fun b hb hc => (nq b hb).2 ((p4 b).mpr (.inr hc))
  have nr : a ∉ fr := fun hr => by
    rcases (r1 a).mp hr with h | h
    · exact (nq a h).1 rfl
    · exact na ((p4 a).mpr (.inr h))
  refine fld_put (C := c') (fs := fs) (fq := fq) (y := u) (dx := dx) k0 ow s1' x1 f1 (.ins c' dx (putF g u fs)) (by rw [efp]; exact List.mem_cons_self) (fr := a :: fr) ?_ fun b hb => ?_
  · exact .ins e1 upd_same (by rw [put_idx hnm hj]; rw [put_idx hnm hj] at r2; exact r2) nr
  · rcases List.mem_cons.mp hb with e | hb
    · exact .inl (by rw [efp, e]; exact List.mem_cons_self)
    · rcases (r1 b).mp hb with h | h
      · exact .inr (n1 b h)
      · exact .inl (by rw [efp]; exact List.mem_cons_of_mem _ ((p4 b).mpr (.inr h)))
/-- a new field -/
theorem vb_fldN {m : R α} {kk : α → R β} (c : ClsI X.K W cn fl) (hf : f ∈ fl) (hj : idxS f ns = none) (h : PE X o (tVar i)) (hi : ρ i = .vl (.ow (.ins cn (zipS ns ss)) r) (insV cn ns ds)) (he : VE X W E ρ s2 e m)
    (hrest : ∀ x, VB X W E (se ρ i (.vl (.ow (.ins cn (zipS (ns ++ [f]) (ss ++ [s2]))) r) (insV cn (ns ++ [f]) (ds ++ [en x])))) rest (kk x) out) (hl : ns.length = ds.length := by rfl) (hl2 : ns.length = ss.length := by rfl) (hn : ns.length < 1000 := by decide) (hsw : swapsWith e (some (.Attribute o f pos')) pos.line X.env = pure false := by rfl) :
    VB X W E ρ (.Assign [.Attribute o f pos'] e pos :: rest) (m.bind kk) out := (pss_cons (ps_fld h he hsw) (pss_any hrest)).wk fun De σ H ⟨H0, F0, F, k0, x, q⟩ => by
  refine ⟨H0, F, k0, ((hds_bind q).hd σ k0.same).imp fun y q1 u H1 F1 fq s1' x1 f1 w1 n1 => ?_⟩
  obtain ⟨v, fp, ow⟩ := k0.own hi
  obtain ⟨a, c', dx, fs, fz, ev, hc', ho', efp, hw, na⟩ := ow_ins ow.ow
  subst ev
  have hnm := owf_zip hl hl2 hw
  obtain ⟨C, e1, cl, nat⟩ := c.ex
  rw [e1] at hc'; cases hc'
  have lf : fs.length = ns.length := by rw [← hnm, List.length_map]
  refine ⟨_, ow.at_, a, _, dx, fs, rfl, s1' _ _ ho', cl, nat f hf, by omega, y, H0, F0, F1, ?_, x.trans k0.same x1, q1⟩
  have nq : ∀ b ∈ fq, b ≠ a ∧ b ∉ fz := fun b hb => by
    have hb' := (n1 b hb).1
    refine ⟨(fun z => by rw [z, ho'] at hb'; cases hb'), fun z => ?_⟩
    obtain ⟨o', e'⟩ := ow.ow.live b (by rw [efp]; exact List.mem_cons_of_mem _ z)
    rw [hb'] at e'; cases e'
  have keep : ∀ b ∈ fz, upd H1 a (.ins c' dx (putF f u fs)) b = H b := fun b hb => by
    rw [upd_ne fun z => by rw [z] at hb; exact na hb]
    obtain ⟨o', e'⟩ := ow.ow.live b (by rw [efp]; exact List.mem_cons_of_mem _ hb)
    exact (s1' b o' e').trans e'.symm
  obtain ⟨fr, r1, r2⟩ := owf_snoc (f := f) (w1.mono (H' := upd H1 a (.ins c' dx (putF f u fs))) (Same.refl F1) fun b hb => upd_ne (nq b hb).1) hl hl2 (hw.mono x1.up keep) fun b hb hc => (nq b hc).2 hb
  have nr : a ∉ fr := fun hr => by
    rcases (r1 a).mp hr with h | h
    · exact na h
    · exact (nq a h).1 rfl
  refine fld_put (C := c') (fs := fs) (fq := fq) (y := u) (dx := dx) k0 ow s1' x1 f1 (.ins c' dx (putF f u fs)) (by rw [efp]; exact List.mem_cons_self) (fr := a :: fr) ?_ fun b hb => ?_
  · exact .ins e1 upd_same (by rw [put_none hnm hj]; rw [put_none hnm hj] at r2; exact r2) nr
  · rcases List.mem_cons.mp hb with e | hb
    · exact .inl (by rw [efp, e]; exact List.mem_cons_self)
    · rcases (r1 b).mp hb with h | h
      · exact .inl (by rw [efp]; exact List.mem_cons_of_mem _ h)
      · exact .inr (n1 b h)
/-! ### a field as a place -/
theorem vp_fld (G : γ → D) {x : γ} {sj : Sh} (c : ClsI X.K W cn fl) (hf : f ∈ fl) (hj : idxS f ns = some j) (h : PE X e (tVar i)) (hG : ∀ z, G z = insV cn ns (ds.set j (en z))) (hd : ds[j]? = some (en x)) (hs : ss[j]? = some sj) (hl : ns.length = ds.length := by rfl) (hl2 : ns.length = ss.length := by rfl) (hb : attributeBase e f X.env (eval e X.env) = eval e X.env := by rfl) :
    @VP γ γ ⟨G⟩ _ X W E ρ i (.ins cn (zipS ns ss)) r x sj (.Attribute e f pos) (.ok (x, fun z => z)) := by
  have hx : G x = insV cn ns ds := by
    rw [hG]
    congr 1
    apply List.ext_getElem?
    intro q
    by_cases hq : q = j
    · subst hq; rw [List.getElem?_set_self (List.getElem?_eq_some_iff.mp hd).1, hd]
    · rw [List.getElem?_set_ne (Ne.symm hq)]
  refine (pe_fld h hb).wk fun σ H Q ⟨H0, F, k, v, fp, o, q⟩ => ?_
  have w : Ow X.K W.rc F H (.ins cn (zipS ns ss)) v (G x) fp := o.ow
  rw [hx] at w
  obtain ⟨a, c', dx, fs, fz, ev, hc', ho', efp, hw, na⟩ := ow_ins w
  subst ev
  have hnm := owf_zip hl hl2 hw
  obtain ⟨C, e1, cl, nat⟩ := c.ex
  rw [e1] at hc'; cases hc'
  obtain ⟨g, u, fa, fb, p1, p2, p3, p4, p5, p6⟩ := owf_focus hl hl2 hw hs hd
  have hu : (fs.map (·.2))[j]? = some u := by rw [List.getElem?_map, p2]; rfl
  refine ⟨_, o.at_, a, _, dx, fs, u, rfl, ho', cl, nat f hf, (look_idx hnm hj).trans hu, okH q u fa H F (Same.refl H) (Ext.refl F H) k.sub ⟨p3, a :: fb, fun b => ?_, fun b hb hc => ?_, fun F' H' z fq f' g' w' m' => ?_⟩⟩
  · rw [efp, List.mem_cons, List.mem_cons, p4]
    constructor
    · rintro (h | h | h)
      · exact .inr (.inl h)
      · exact .inl h
      · exact .inr (.inr h)
    · rintro (h | h | h)
      · exact .inr (.inl h)
      · exact .inl h
      · exact .inr (.inr h)
  · rcases List.mem_cons.mp hc with e | hc
    · exact na ((p4 a).mpr (.inl (e ▸ hb)))
    · exact p5 b hb hc
  · obtain ⟨fr, r1, r2⟩ := p6 F' H' sj u (en z) fq f' (fun b hb => g' b (List.mem_cons_of_mem _ hb)) w' fun b hb hc => m' b hb (List.mem_cons_of_mem _ hc)
    have es' : ss.set j sj = ss := by
      apply List.ext_getElem?
      intro q
      by_cases hq : q = j
      · subst hq; rw [List.getElem?_set_self (List.getElem?_eq_some_iff.mp hs).1, hs]
      · rw [List.getElem?_set_ne (Ne.symm hq)]
    have ef' : fs.set j (g, u) = fs := by
      apply List.ext_getElem?
      intro q
      by_cases hq : q = j
      · subst hq; rw [List.getElem?_set_self (List.getElem?_eq_some_iff.mp p2).1, p2]
      · rw [List.getElem?_set_ne (Ne.symm hq)]
    rw [es', ef'] at r2
    have nr : a ∉ fr := fun hr => by
      rcases (r1 a).mp hr with h | h
      · exact m' a h List.mem_cons_self
      · exact na ((p4 a).mpr (.inr h))
    refine ⟨a :: fr, fun b => ?_, ?_⟩
    · rw [List.mem_cons, List.mem_cons, r1]
      constructor
      · rintro (h | h | h)
        · exact .inr (.inl h)
        · exact .inl h
        · exact .inr (.inr h)
      · rintro (h | h | h)
        · exact .inr (.inl h)
        · exact .inl h
        · exact .inr (.inr h)
    · show Ow X.K W.rc F' H' (.ins cn (zipS ns ss)) (.ref a) (G z) (a :: fr)
      rw [hG]
      exact .ins e1 ((g' a List.mem_cons_self).trans ho') r2 nr
end
section
variable {X : Cx} {W : Vp} {E : L2.St → XK} {ρ : Env} {s s2 : Sh} {i : Nat} {r : Option V} {α δ β : Type} [En δ] {out : β → Out} {st : Stmt} {rest : List Stmt}
theorem tb_appF (G : α → D) {a : α} {mp : R (List δ × (List δ → α))} {me : R δ} {m' : R α} {k : α → R β} (h : PS X st (tDrop (tBM X.K "list" rAppend (@tP α (List δ) ⟨G⟩ _ X.K W E X.N.length ρ i s r a (.lst s2) mp) (tCons (tE X.K W E X.N.length ρ s2 me) tNil)))) (q : (mp.bind fun p => me.bind fun x => (appR p.1 x).bind fun c => .ok (p.2 c)) = m') (hr : ∀ z : α, VB X W E (se ρ i (.vl (.ow s r) (G z))) rest (k z) out) (hi : ρ i = .vl (.ow s r) (G a) := by rfl) :
    VB X W E ρ (st :: rest) (m'.bind k) out := @tb_app X W E ρ s s2 i r α δ β ⟨G⟩ _ a out st rest mp me m' k h q hr hi
theorem tb_putF (G : α → D) {a : α} {mp : R (List δ × (List δ → α))} {me : R δ} {mk : R Int} {m' : R α} {k : α → R β} (h : PS X st (tAsg (tE X.K W E X.N.length ρ s2 me) (gSub (@tP α (List δ) ⟨G⟩ _ X.K W E X.N.length ρ i s r a (.lst s2) mp) (tE X.K W E X.N.length ρ .frz mk) rSetL))) (q : (me.bind fun x => mp.bind fun p => mk.bind fun j => (putR p.1 j x).bind fun c => .ok (p.2 c)) = m') (hr : ∀ z : α, VB X W E (se ρ i (.vl (.ow s r) (G z))) rest (k z) out) (hi : ρ i = .vl (.ow s r) (G a) := by rfl) :
    VB X W E ρ (st :: rest) (m'.bind k) out := @tb_put X W E ρ s s2 i r α δ β ⟨G⟩ _ a out st rest mp me mk m' k h q hr hi
end
end Tx

set_option Elab.async false
set_option linter.all false
set_option maxRecDepth 100000
set_option maxHeartbeats 4000000
/-! A20: bodies of defs that change an argument; index, augmented stores. -/
namespace Tx
open PySem L2 PyProof.Rows En EnL

def argP : Nat → List D → Env → Env
  | _, [], ρ => ρ
  | k, d :: ds, ρ => se (argP (k + 1) ds ρ) k (.vl .fz d)
/-- the slots at the start: as, what is owned, bs -/
def argI (as : List D) (x : Sl) (bs : List D) : Env := argP 0 as (se (argE (as.length + 1) bs) as.length x)
theorem argP_get : ∀ (as : List D) (k i : Nat) (ρ : Env) (m : Md) (d : D), argP k as ρ i = .vl m d → (k ≤ i ∧ i < k + as.length ∧ m = .fz ∧ as[i - k]? = some d) ∨ ((i < k ∨ k + as.length ≤ i) ∧ ρ i = .vl m d)
  | [], k, i, ρ, m, d, h => .inr ⟨by simp; omega, h⟩
  | x :: as, k, i, ρ, m, d, h => by
    unfold argP at h
    by_cases q : i = k
    · subst q
      rw [se_same] at h
      cases h
      exact .inl ⟨Nat.le_refl _, by simp, rfl, by simp⟩
    · rw [se_ne _ _ q] at h
      rcases argP_get as (k + 1) i ρ m d h with ⟨h1, h2, h3, h4⟩ | ⟨h1, h2⟩
      · refine .inl ⟨by omega, by simp; omega, h3, ?_⟩
        rw [show i - k = (i - (k + 1)) + 1 by omega]
        simpa using h4
      · exact .inr ⟨by simp; omega, h2⟩
section
variable {K : PySem.W.Frag} {W : Vp} {A B β δ ε : Type} [EnL A] [EnL B] [En β] [En δ] [En ε]
theorem startI_env {N : List Str} {F H : Hp} {ws us : List V} {u : V} {x : A} {y : B} {z : δ} {s1 : Sh} {fq : List Addr} (s : Same F H) (w : Ow K W.rc F H s1 u (en z) fq) (n : ∀ a ∈ fq, F a = none) (r1 : RpA K W.rc F ws (enl x)) (r2 : RpA K W.rc F us (enl y)) (hl : (ws ++ u :: us).length ≤ N.length) :
    EnvS K W.rc (hid H fq) F H N.length (L2.start N (ws ++ u :: us)) (argI (enl x) (.vl (.ow s1 (some u)) (en z)) (enl y)) := by
  have l1 := r1.len
  have pos : ∀ i m d, argI (enl x) (.vl (.ow s1 (some u)) (en z)) (enl y) i = .vl m d → (m = .fz ∧ i ≠ (enl x).length ∧ ∃ v, (ws ++ u :: us)[i]? = some v ∧ Rp K W.rc F v d) ∨ (i = (enl x).length ∧ m = .ow s1 (some u) ∧ d = en z) := fun i m d h => by
    rcases argP_get _ _ _ _ _ _ h with ⟨_, h2, h3, h4⟩ | ⟨h1, h2⟩
    · obtain ⟨v, q1, q2⟩ := r1.get h4
      refine .inl ⟨h3, by omega, v, ?_, q2⟩
      rw [List.getElem?_append_left (by rw [l1]; omega)]
      simpa using q1
    · by_cases q : i = (enl x).length
      · subst q
        rw [se_same] at h2
        cases h2
        exact .inr ⟨rfl, rfl, rfl⟩
      · rw [se_ne _ _ q] at h2
        obtain ⟨g1, g2, g3⟩ := argE_get _ _ _ _ _ h2
        obtain ⟨v, q1, q2⟩ := r2.get g3
        refine .inl ⟨g2, q, v, ?_, q2⟩
        rw [List.getElem?_append_right (by rw [l1]; omega), l1]
        rw [show i - (enl x).length = (i - ((enl x).length + 1)) + 1 by omega]
        simpa using q1
  refine ⟨hid_le H fq, s, start_len hl, fun i => if i = (enl x).length then fq else [], fun i m d h => ?_, fun i j s r d t q e hne h1 h2 => ?_⟩
  · rcases pos i m d h with ⟨rfl, h1, v, h2, h3⟩ | ⟨rfl, rfl, rfl⟩
    · exact ⟨v, start_get h2, if_neg h1, h3⟩
    · refine ⟨u, start_get (by rw [List.getElem?_append_right (by rw [l1]; exact Nat.le_refl _), l1]; simp), (fun v e => by cases e; rfl), ?_, ?_⟩
      · show Ow K W.rc F H s1 u (en z) (if (enl x).length = (enl x).length then fq else [])
        rw [if_pos rfl]; exact w
      · show ∀ a ∈ (if (enl x).length = (enl x).length then fq else []), _
        rw [if_pos rfl]; exact fun a ha => ⟨n a ha, hid_in ha⟩
  · rcases pos i _ d h1 with ⟨e1, _⟩ | ⟨e1, _⟩
    · cases e1
    · rcases pos j _ e h2 with ⟨e2, _⟩ | ⟨e2, _⟩
      · cases e2
      · exact (hne (e1.trans e2.symm)).elim
/-- a body that falls off its end, the argument changed -/
theorem bodyI_nx {E : XK} {N : List Str} {vs : List V} {H : Hp} {Q : VK} {g : A → δ → B → R ε} {s1 s2 : Sh} (hl : vs.length ≤ N.length) (h : spI K W s1 (fun (x : A) (z : δ) (y : B) => (g x z y).map fun s => ((), s)) .frz s2 vs H Q E) :
    ∃ (x : A) (u : V) (z : δ) (y : B), tB K W (fun _ => E) N.length (argI (enl x) (.vl (.ow s1 (some u)) (en z)) (enl y)) (g x z y) (fun s' : ε => .nx (se e0 (enl x).length (.vl (.ow s2 (some u)) (en s')))) { nx := fun _ H' => Q .non H', rt := Q } (L2.start N vs) H := by
  obtain ⟨F, ws, u, us, x, z, y, fq, rfl, sF, w, nF, r1, r2, m⟩ := h
  have m := hd_map m
  refine ⟨x, u, z, y, hid H fq, F, F, startI_env sF w nF r1 r2 hl, Ext.refl F _, ?_⟩
  cases hg : g x z y with
  | ok b =>
    rw [hg] at m
    refine fun σ' H' F' k x' => ?_
    obtain ⟨v, fr, o⟩ := k.own (i := (enl x).length) (s := s2) (r := some u) (d := en b) (se_same _ _ _)
    have ev := o.rt u rfl
    subst ev
    exact okH m .non H' F' [] fr k.same x' k.sub (.sc rfl .non) o.ow (fun a ha => nomatch ha) (fun a ha => ⟨(o.fre a ha).2, (o.fre a ha).1⟩) fun a ha => nomatch ha
  | ex c => rw [hg] at m; exact fun _ H' z => m H' z
  | no => rw [hg] at m; exact m.elim
end
section
variable {P : Program} {w : World} {K : PySem.W.Frag} {mg : Str → Option Value} {base : Heap} {W : Vp} {A B δ ε : Type} [EnL A] [EnL B] [En δ] [En ε]
theorem fn_I {x qual : Str} {st : Stmt} {N ps : List Str} {k : Nat} {g : A → δ → B → R ε} {s1 s2 : Sh} {fa : Addr} {fd : FuncData} (F : Fun K x qual st fa fd) (S : FnScope N ps (defScope st))
    (hb : ∀ (cdv : Value) (Ar : Around) (outer : List PySem.Env) (sh : Shared) (H : Hp) (E : XK), Rm k (Ar.deeper (envOfC qual (defScope st) sh.heap.objs.size fa cdv)) → ∀ (a : A) (u : V) (z : δ) (b : B), VB (cxOf (L2.CX P w) P w K mg base N qual (defScope st) fa cdv Ar outer sh H E) W (fun _ => E) (argI (enl a) (.vl (.ow s1 (some u)) (en z)) (enl b)) (defBody st) (g a z b) (fun s' : ε => .nx (se e0 (enl a).length (.vl (.ow s2 (some u)) (en s')))))
    (hn : ∀ (a : A) (b : B), (enl a).length + ((enl b).length + 1) = ps.length := by intro _ _; rfl) (hl : Nat.ble ps.length N.length = true := by rfl) : FnG P w K mg base (k + 1) fa fd ps (spI K W s1 (fun (a : A) (z : δ) (b : B) => (g a z b).map fun s => ((), s)) .frz s2) :=
  fnG_of F S (fun vs H Q E ⟨_, ws, u, us, a, z, b, _, e, _, _, _, r1, r2, _⟩ => by rw [e, List.length_append, List.length_cons, r1.len, r2.len, hn]) fun cdv Ar outer sh H vs Q E hr h => by
    have l : vs.length ≤ N.length := by
      obtain ⟨_, ws, u, us, a, z, b, _, e, _, _, _, r1, r2, _⟩ := h
      rw [e, List.length_append, List.length_cons, r1.len, r2.len, hn]
      exact Nat.le_of_ble_eq_true hl
    obtain ⟨a, u, z, b, q⟩ := bodyI_nx (N := N) l h
    exact ⟨_, hb cdv Ar outer sh H E hr a u z b, q⟩
/-- what of the text a method must have -/
structure Mth (K : PySem.W.Frag) (W : Vp) (cn nm qual : Str) (st : Stmt) (ps : List Str) : Prop where
  ex : ∃ (C f : Addr) (fd : FuncData), W.rc.cl cn = some C ∧ Cls K C ∧ Meth K C nm f ∧ Fun K nm qual st f fd ∧ Binds K fd ps []
structure Ini (K : PySem.W.Frag) (mg : Str → Option Value) (W : Vp) (cn qual : Str) (st : Stmt) (ps : List Str) : Prop where
  ex : ∃ (C f : Addr) (fd : FuncData), W.rc.cl cn = some C ∧ mg cn = some (.ref C) ∧ Mk K C f ∧ Fun K "__init__" qual st f fd ∧ Binds K fd ps []
theorem calM {β : Type} [En β] {cn nm qual : Str} {st : Stmt} {N ps : List Str} {k : Nat} {f : A → R β} {s : Sh} (d : Mth K W cn nm qual st ps) (S : FnScope N ps (defScope st))
    (hb : ∀ (fa : Addr) (cdv : Value) (Ar : Around) (outer : List PySem.Env) (sh : Shared) (H : Hp) (E : XK), Rm k (Ar.deeper (envOfC qual (defScope st) sh.heap.objs.size fa cdv)) → ∀ a : A, VB (cxOf (L2.CX P w) P w K mg base N qual (defScope st) fa cdv Ar outer sh H E) W (fun _ => E) (argE 0 (enl a)) (defBody st) (f a) (rtOut s))
    (hn : ∀ a : A, (enl a).length = ps.length := by intro _; rfl) (hl : Nat.ble ps.length N.length = true := by rfl) : CalM P w K mg base W cn nm (k + 1) f s := by
  obtain ⟨C, fa, fd, hc, cl, hm, F, hbd⟩ := d.ex
  refine ⟨C, fa, fd, ps, hc, cl, hm, hbd, fnG_of F S (fun vs H Q E ⟨_, a, _, r, _⟩ => by rw [r.len, hn]) fun cdv Ar outer sh H vs Q E hr h => ?_⟩
  have l : vs.length ≤ N.length := by
    obtain ⟨_, a, _, r, _⟩ := h
    rw [r.len, hn]
    exact Nat.le_of_ble_eq_true hl
  obtain ⟨a, q⟩ := body_rt (N := N) l h
  exact ⟨_, hb fa cdv Ar outer sh H E hr a, q⟩
theorem calI {cn nm qual : Str} {st : Stmt} {N ps : List Str} {k : Nat} {g : A → δ → B → R ε} {s1 s2 : Sh} (d : Mth K W cn nm qual st ps) (S : FnScope N ps (defScope st))
    (hb : ∀ (fa : Addr) (cdv : Value) (Ar : Around) (outer : List PySem.Env) (sh : Shared) (H : Hp) (E : XK), Rm k (Ar.deeper (envOfC qual (defScope st) sh.heap.objs.size fa cdv)) → ∀ (a : A) (u : V) (z : δ) (b : B), VB (cxOf (L2.CX P w) P w K mg base N qual (defScope st) fa cdv Ar outer sh H E) W (fun _ => E) (argI (enl a) (.vl (.ow s1 (some u)) (en z)) (enl b)) (defBody st) (g a z b) (fun s' : ε => .nx (se e0 (enl a).length (.vl (.ow s2 (some u)) (en s')))))
    (hn : ∀ (a : A) (b : B), (enl a).length + ((enl b).length + 1) = ps.length := by intro _ _; rfl) (hl : Nat.ble ps.length N.length = true := by rfl) : CalI P w K mg base W cn nm (k + 1) s1 (fun (a : A) (z : δ) (b : B) => (g a z b).map fun s => ((), s)) .frz s2 := by
  obtain ⟨C, fa, fd, hc, cl, hm, F, hbd⟩ := d.ex
  exact ⟨C, fa, fd, ps, hc, cl, hm, hbd, fn_I F S (hb fa) hn hl⟩
theorem calK {cn qual : Str} {st : Stmt} {N ps : List Str} {k : Nat} {g : B → R ε} {ss : List (Str × Sh)} (d : Ini K mg W cn qual st ps) (S : FnScope N ps (defScope st))
    (hb : ∀ (fa : Addr) (cdv : Value) (Ar : Around) (outer : List PySem.Env) (sh : Shared) (H : Hp) (E : XK), Rm k (Ar.deeper (envOfC qual (defScope st) sh.heap.objs.size fa cdv)) → ∀ (u : V) (b : B), VB (cxOf (L2.CX P w) P w K mg base N qual (defScope st) fa cdv Ar outer sh H E) W (fun _ => E) (argI [] (.vl (.ow (.ins cn []) (some u)) (insV cn [] [])) (enl b)) (defBody st) (g b) (fun s' : ε => .nx (se e0 0 (.vl (.ow (.ins cn ss) (some u)) (en s')))))
    (hn : ∀ (b : B), (enl b).length + 1 = ps.length := by intro _; rfl) (hl : Nat.ble ps.length N.length = true := by rfl) : CalK P w K mg base W cn (k + 1) g ss := by
  obtain ⟨C, fa, fd, hc, hg, M, F, hbd⟩ := d.ex
  refine ⟨C, fa, fd, ps, hc, hg, M, hbd, fnG_of F S (fun vs H Q E ⟨_, ws, u, us, a, z, b, _, e, _, _, _, r1, r2, _⟩ => by rw [e, List.length_append, List.length_cons, r1.len, r2.len, ← hn b]; show 0 + _ = _; omega) fun cdv Ar outer sh H vs Q E hr h => ?_⟩
  have l : vs.length ≤ N.length := by
    obtain ⟨_, ws, u, us, a, z, b, _, e, _, _, _, r1, r2, _⟩ := h
    have := Nat.le_of_ble_eq_true hl
    have hb' := hn b
    rw [e, List.length_append, List.length_cons, r1.len, r2.len]
    show 0 + _ ≤ _
    omega
  obtain ⟨a', u', z', b', q⟩ := bodyI_nx (N := N) (K := K) (W := W) (g := fun (_ : Unit) (_ : I0 cn) (b : B) => g b) (s1 := .ins cn []) (s2 := .ins cn ss) l h
  exact ⟨_, hb fa cdv Ar outer sh H E hr u' b', q⟩
end
/-! ### list.index -/
def idxR (l : List Int) (y : Int) : R Int :=
  match l.idxOf? y with
  | some j => .ok j
  | none => .no
theorem eqV_int (a b : Int) : eqV (.int a) (.int b) = decide (a = b) := by
  by_cases h : a = b
  · subst h; simp [eqV]
  · simp [eqV, h]
section
variable {X : Cx} {W : Vp} {E : L2.St → XK} {ρ : Env} {o e : Expr} {p pos apos cpos : Pos}
theorem te_index {m : R (List Int)} {n : R (Int × Unit)} (h : PE X e (tBM X.K "list" (rIndex X.K) (tE X.K W E X.N.length ρ .frz m) (tA X.K W E X.N.length ρ .frz n))) : VE X W E ρ .frz e (m.bind fun l => n.bind fun y => idxR l y.1) := h.wk fun σ H Q ⟨H0, F, k, q⟩ =>
  ⟨H0, F, k, (hd_bind q).imp fun l q1 v H1 F1 fp s1 x1 f1 w1 _ => by
    have r1 := w1.toRp.2
    have r1' : Rp X.K W.rc F1 v (.list (l.map PyData.int)) := r1
    cases r1' with
    | @lst a vs ds h1 r =>
      have ev := r.ofInts
      subst ev
      refine ⟨.inl ⟨rfl, _, sqr_l (sqr_mono f1 h1)⟩, H0, F1, k.grow s1 x1 f1, ((hd_bind q1).heap s1).imp fun y q2 us H2 F2 fq s2 x2 f2 w2 _ => ?_⟩
      have r2 := w2.toRp.2
      have eu : us = [.int y.1] := by
        have r2 : RpA X.K W.rc F2 us [PyData.int y.1] := r2
        cases r2 with
        | cons r t => cases r; cases t; rfl
      subst eu
      unfold idxR at q2
      cases hj : l.idxOf? y.1 with
      | none => rw [hj] at q2; exact q2.elim
      | some j =>
        rw [hj] at q2
        obtain ⟨hlt, hget, hno⟩ : ∃ h : j < l.length, l[j] = y.1 ∧ ∀ i (hi : i < j), l[i]'(Nat.lt_trans hi h) ≠ y.1 := by
          have := List.idxOf?_eq_some_iff.mp hj
          obtain ⟨h, h1, h2⟩ := this
          exact ⟨h, by simpa using h1, fun i hi => by simpa using h2 i hi⟩
        refine ⟨a, l.map V.int, .int y.1, j, .int y.1, rfl, rfl, sqr_l (sqr_mono (x2.up.trans f2) h1), rfl, ?_, ?_, by rw [eqV_int]; simp, fun i z' hi hz => ?_, okH q2 _ H2 F2 [] (s1.trans s2) (x1.trans s1 x2) f2 (.fz (.int _)) fun x hx => nomatch hx⟩
        · simp [flatV]
        · simp [List.getElem?_map, hlt, hget]
        · rw [List.getElem?_map, List.getElem?_eq_getElem (Nat.lt_trans hi hlt)] at hz
          cases hz
          rw [eqV_int]
          simpa using hno i hi⟩
/-! ### xs[k] op= e -/
theorem pget_list : PGet X (rIxL X.K) := by
  intro pins s σ H o i ov iv Q I ro ri ⟨p, xs, k, z, e1, e2, hq, he, q⟩
  subst e1; subst e2
  cases ro
  obtain ⟨t, rfl⟩ := ri
  obtain ⟨its, r, pl, hz⟩ := I.list hq
  obtain ⟨j, h1, h2, h3, h4, h5⟩ := atI_get he
  obtain ⟨w, ew, rw'⟩ := r.get h2
  have hl := r.length
  have hn := line63
  have fin : EP X pins σ Q w s := ⟨z, H, I, rw', q⟩
  by_cases h0 : 0 ≤ k
  · have hj : k.toNat = j := by
      rw [seqIndex_of h0 h5] at h1
      exact Option.some.inj h1
    exact PySem.wpAny_getItem_list pl.isList h0 (by omega) (by rw [hj]; simpa using ew) fin
  · have hj : (k + (its.toArray.size : Int)).toNat = j := by
      rw [seqIndex_neg (by omega) h4] at h1
      rw [List.size_toArray, ← hl]
      exact Option.some.inj h1
    exact wpAny_getItem_list_neg pl.isList (by omega) (by rw [List.size_toArray] <;> omega) (by omega) (by rw [hj]; simpa using ew) fin
end
end Tx

set_option Elab.async false
set_option linter.all false
set_option maxRecDepth 100000
set_option maxHeartbeats 4000000
/-! A21: what is owned is handed on. -/
namespace Tx
open PySem L2 PyProof.Rows En EnL

/-- the slots, and what is set aside -/
structure EnvR (K : PySem.W.Frag) (C : Rc) (H0 F H : Hp) (L : Nat) (σ : L2.St) (ρ : Env) (R : List Addr) : Prop where
  same : Same H0 H
  sub : Same F H
  len : σ.length = L
  sl : ∃ fp : Nat → List Addr, (∀ i m d, ρ i = .vl m d → ∃ v, σ[i]? = some (some v) ∧ ValM K C H0 F H m v d (fp i)) ∧
    (∀ i j s r d t q e, i ≠ j → ρ i = .vl (.ow s r) d → ρ j = .vl (.ow t q) e → ∀ a ∈ fp i, a ∉ fp j) ∧ ∀ i s r d, ρ i = .vl (.ow s r) d → ∀ a ∈ fp i, a ∉ R
section
variable {K : PySem.W.Frag} {C : Rc} {H0 F F' H H' : Hp} {L : Nat} {σ : L2.St} {ρ ρ' : Env} {R R' fp : List Addr} {i : Nat} {s : Sh} {v : V} {d : D} {r : Option V}
theorem EnvR.env (k : EnvR K C H0 F H L σ ρ R) : EnvS K C H0 F H L σ ρ := ⟨k.same, k.sub, k.len, let ⟨fp, h1, h2, _⟩ := k.sl; ⟨fp, h1, h2⟩⟩
theorem EnvS.toR (k : EnvS K C H0 F H L σ ρ) : EnvR K C H0 F H L σ ρ [] := ⟨k.same, k.sub, k.len, let ⟨fp, h1, h2⟩ := k.sl; ⟨fp, h1, h2, fun _ _ _ _ _ _ _ h => nomatch h⟩⟩
theorem EnvR.grow (k : EnvR K C H0 F H L σ ρ R) (sm : Same H H') (x : Ext F H F') (sb : Same F' H') : EnvR K C H0 F' H' L σ ρ R := by
  obtain ⟨fp, o1, o2, o3⟩ := k.sl
  refine ⟨k.same.trans sm, sb, k.len, fp, fun i m d e => ?_, o2, o3⟩
  obtain ⟨v, h1, h2⟩ := o1 i m d e
  exact ⟨v, h1, h2.grow h2.live m sm x⟩
theorem EnvR.congr (k : EnvR K C H0 F H L σ ρ R) (h : ∀ a, a ∈ R' → a ∈ R) : EnvR K C H0 F H L σ ρ R' := ⟨k.same, k.sub, k.len, let ⟨fp, h1, h2, h3⟩ := k.sl; ⟨fp, h1, h2, fun i s r d e a ha hr => h3 i s r d e a ha (h a hr)⟩⟩
/-- more is set aside, new -/
theorem EnvR.more (k : EnvR K C H0 F H L σ ρ R) (n : ∀ a ∈ fp, H a = none) : EnvR K C H0 F H L σ ρ (fp ++ R) := ⟨k.same, k.sub, k.len, by
  obtain ⟨gp, h1, h2, h3⟩ := k.sl
  refine ⟨gp, h1, h2, fun i s r d e a ha hr => ?_⟩
  rcases List.mem_append.mp hr with h | h
  · obtain ⟨v, _, q⟩ := h1 i _ d e
    obtain ⟨o, e'⟩ := q.live a ha
    rw [n a h] at e'; cases e'
  · exact h3 i s r d e a ha h⟩
/-- a slot's value is taken out -/
theorem EnvR.take (k : EnvR K C H0 F H L σ ρ R) (hi : ρ i = .vl (.ow s r) d) : ∃ v fp, σ[i]? = some (some v) ∧ (∀ u, r = some u → v = u) ∧ Ow K C F H s v d fp ∧ (∀ a ∈ fp, F a = none ∧ H0 a = none) ∧ (∀ a ∈ fp, a ∉ R) ∧ EnvR K C H0 F H L σ (se ρ i .un) (fp ++ R) := by
  obtain ⟨gp, h1, h2, h3⟩ := k.sl
  obtain ⟨v, q1, q2, q3, q4⟩ := h1 i _ d hi
  refine ⟨v, gp i, q1, q2, q3, q4, h3 i s r d hi, k.same, k.sub, k.len, gp, fun j m e z => ?_, fun a b s r d t q e n z1 z2 => ?_, fun j s' r' d' z a ha hr => ?_⟩
  · have ne : j ≠ i := fun w => by subst w; rw [se_same] at z; cases z
    rw [se_ne _ _ ne] at z
    exact h1 j m e z
  · have na : a ≠ i := fun w => by subst w; rw [se_same] at z1; cases z1
    have nb : b ≠ i := fun w => by subst w; rw [se_same] at z2; cases z2
    rw [se_ne _ _ na] at z1
    rw [se_ne _ _ nb] at z2
    exact h2 a b s r d t q e n z1 z2
  · have ne : j ≠ i := fun w => by subst w; rw [se_same] at z; cases z
    rw [se_ne _ _ ne] at z
    rcases List.mem_append.mp hr with h | h
    · exact h2 j i s' r' d' s r d ne z hi a ha h
    · exact h3 j s' r' d' z a ha h
/-- what is set aside goes to a slot -/
theorem EnvR.set (k : EnvR K C H0 F H L σ ρ fp) (hi : i < L) (w : Ow K C F H s v d fp) (n : ∀ a ∈ fp, H0 a = none ∧ F a = none) : EnvS K C H0 F H L (σ.set i (some v)) (se ρ i (.vl (.ow s none) d)) := by
  obtain ⟨gp, h1, h2, h3⟩ := k.sl
  refine ⟨k.same, k.sub, by rw [List.length_set]; exact k.len, fset gp i fp, fun j m e q => ?_, fun a b s r d t q e hn z1 z2 y hy => ?_⟩
  · by_cases z : j = i
    · subst z
      rw [se_same] at q; cases q
      refine ⟨v, List.getElem?_set_self (by rw [k.len]; exact hi), (fun u h => by cases h), ?_, ?_⟩
      · rw [fset_same]; exact w
      · rw [fset_same]; exact fun a ha => ⟨(n a ha).2, (n a ha).1⟩
    · rw [se_ne _ _ z] at q
      rw [List.getElem?_set_ne (Ne.symm z), fset_ne _ _ z]
      exact h1 j m e q
  · by_cases za : a = i
    · have zb : b ≠ i := fun w => hn (za.trans w.symm)
      subst za
      rw [fset_same] at hy
      rw [fset_ne _ _ zb]
      rw [se_ne _ _ zb] at z2
      exact fun hz => h3 b _ _ _ z2 y hz hy
    · rw [fset_ne _ _ za] at hy
      rw [se_ne _ _ za] at z1
      by_cases zb : b = i
      · subst zb
        rw [fset_same]
        exact h3 a _ _ _ z1 y hy
      · rw [fset_ne _ _ zb]
        rw [se_ne _ _ zb] at z2
        exact h2 a b s r d t q e hn z1 z2 y hy
/-- a slot's object is changed, and takes what was set aside -/
theorem EnvR.mut {p : Addr} {ho : HO} {gz : List Addr} {s2 : Sh} {d2 : D} {u : V} (k : EnvR K C H0 F H L σ ρ fp) (hi : ρ i = .vl (.ow s r) d) (hv : σ[i]? = some (some u))
    (h : ∀ gi : List Addr, Ow K C F H s u d gi → (∀ a ∈ gi, a ∉ fp) → p ∈ gi ∧ ∃ fr, Ow K C F (upd H p ho) s2 u d2 fr ∧ ∀ a ∈ fr, a ∈ gi ∨ a ∈ fp) (n : ∀ a ∈ fp, H0 a = none ∧ F a = none) : EnvS K C H0 F (upd H p ho) L σ (se ρ i (.vl (.ow s2 r) d2)) := by
  obtain ⟨gp, h1, h2, h3⟩ := k.sl
  obtain ⟨v, q1, q2, q3, q4⟩ := h1 i _ d hi
  rw [hv] at q1; cases q1
  obtain ⟨hp, fr, w, hfr⟩ := h (gp i) q3 (h3 i s r d hi)
  have pF := (q4 p hp).1
  have p0 := (q4 p hp).2
  have oth : ∀ j m e, j ≠ i → ρ j = .vl m e → p ∉ gp j := fun j m e nj q hj => by
    obtain ⟨x, _, x2⟩ := h1 j m e q
    cases m with
    | fz => rw [x2.1] at hj; cases hj
    | bw t q' =>
      obtain ⟨_, o, e'⟩ := x2.2.2 p hj
      rw [p0] at e'; cases e'
    | ow t q' => exact h2 j i t q' e s r d nj q hi p hj hp
  refine ⟨fun a o e => ?_, fun a o e => ?_, k.len, fset gp i fr, fun j m e q => ?_, fun a b s r d t q e hn z1 z2 y hy => ?_⟩
  · rw [upd_ne fun z => by rw [z, p0] at e; cases e]; exact k.same a o e
  · rw [upd_ne fun z => by rw [z, pF] at e; cases e]; exact k.sub a o e
  · by_cases z : j = i
    · subst z
      rw [se_same] at q; cases q
      refine ⟨u, hv, q2, ?_, ?_⟩
      · rw [fset_same]; exact w
      · rw [fset_same]
        intro a ha
        rcases hfr a ha with h | h
        · exact q4 a h
        · exact ⟨(n a h).2, (n a h).1⟩
    · rw [se_ne _ _ z] at q
      rw [fset_ne _ _ z]
      obtain ⟨x, x1, x2⟩ := h1 j m e q
      refine ⟨x, x1, ?_⟩
      have np := oth j m e z q
      have keep : ∀ a ∈ gp j, upd H p ho a = H a := fun a ha => upd_ne fun w => np (w ▸ ha)
      cases m with
      | fz => exact x2
      | bw t q' => exact ⟨x2.1, x2.2.1.mono (Same.refl F) keep, x2.2.2⟩
      | ow t q' => exact ⟨x2.1, x2.2.1.mono (Same.refl F) keep, x2.2.2⟩
  · by_cases za : a = i
    · have zb : b ≠ i := fun w => hn (za.trans w.symm)
      subst za
      rw [fset_same] at hy
      rw [fset_ne _ _ zb]
      rw [se_ne _ _ zb] at z2
      intro hz
      rcases hfr y hy with h | h
      · exact h2 b a _ _ _ _ _ _ zb z2 hi y hz h
      · exact h3 b _ _ _ z2 y hz h
    · rw [fset_ne _ _ za] at hy
      rw [se_ne _ _ za] at z1
      by_cases zb : b = i
      · subst zb
        rw [fset_same]
        intro hz
        rcases hfr y hz with h | h
        · exact h2 a b _ _ _ _ _ _ za z1 hi y hy h
        · exact h3 a _ _ _ z1 y hy h
      · rw [fset_ne _ _ zb]
        rw [se_ne _ _ zb] at z2
        exact h2 a b s r d t q e hn z1 z2 y hy
end
def tM {α : Type} [En α] (K : PySem.W.Frag) (W : Vp) (E : L2.St → XK) (L : Nat) (ρ ρ' : Env) (s : Sh) (m : R α) : TE := fun σ H Q => ∃ H0 F R, EnvR K W.rc H0 F H L σ ρ R ∧ (∀ a ∈ R, ∃ o, H a = some o) ∧ Hd (E σ) W H m fun a =>
  ∀ v H' F' fp, Same H H' → Ext F H F' → EnvR K W.rc H0 F' H' L σ ρ' (fp ++ R) → (∀ a ∈ fp, a ∉ R) → Ow K W.rc F' H' s v (en a) fp → (∀ a ∈ fp, H0 a = none ∧ F' a = none) → Q v H'
def tMA {A : Type} [EnL A] (K : PySem.W.Frag) (W : Vp) (E : L2.St → XK) (L : Nat) (ρ ρ' : Env) (s : Sh) (m : R A) : TA := fun σ H Q => ∃ H0 F R, EnvR K W.rc H0 F H L σ ρ R ∧ (∀ a ∈ R, ∃ o, H a = some o) ∧ Hd (E σ) W H m fun a =>
  ∀ vs H' F' fp, Same H H' → Ext F H F' → EnvR K W.rc H0 F' H' L σ ρ' (fp ++ R) → (∀ a ∈ fp, a ∉ R) → OwA K W.rc F' H' s vs (enl a) fp → (∀ a ∈ fp, H0 a = none ∧ F' a = none) → Q vs H'
abbrev VM {α : Type} [En α] (X : Cx) (W : Vp) (E : L2.St → XK) (ρ ρ' : Env) (s : Sh) (e : Expr) (m : R α) : Prop := PE X e (tM X.K W E X.N.length ρ ρ' s m)
abbrev VMA {A : Type} [EnL A] (X : Cx) (W : Vp) (E : L2.St → XK) (ρ ρ' : Env) (s : Sh) (es : List Expr) (m : R A) : Prop := PA X es (tMA X.K W E X.N.length ρ ρ' s m)
section
variable {X : Cx} {W : Vp} {E : L2.St → XK} {ρ ρ' ρ1 ρ2 : Env} {s s2 : Sh} {e a b : Expr} {es : List Expr} {pos : Pos} {i j : Nat} {α β γ : Type} [En α] [En γ] {A : Type} [EnL A] {r : Option V} {out : β → Out} {st st1 st2 : Stmt} {rest : List Stmt}
theorem vm_e {m : R α} (h : VE X W E ρ s e m) : VM X W E ρ ρ s e m := h.wk fun σ H Q ⟨H0, F, R, k, rl, q⟩ => ⟨H0, F, k.env, q.imp fun x p v H1 F1 fp s1 x1 f1 w n => by
  refine p v H1 F1 fp s1 x1 ((k.more (fp := fp) fun a ha => (n a ha).1).grow s1 x1 f1) (fun a ha hr => ?_) w fun a ha => ⟨none_back k.same (n a ha).1, (n a ha).2⟩
  obtain ⟨o, e'⟩ := rl a hr
  rw [(n a ha).1] at e'; cases e'⟩
theorem vm_v {x : α} (h : PE X e (tVar i)) (hi : ρ i = .vl (.ow s r) (en x)) : VM X W E ρ (se ρ i .un) s e (.ok x) := h.wk fun σ H Q ⟨H0, F, R, k, rl, q⟩ => by
  obtain ⟨v, fp, h1, h2, h3, h4, h5, h6⟩ := k.take hi
  exact ⟨v, h1, okH q v H F fp (Same.refl H) (Ext.refl F H) h6 h5 h3 fun a ha => ⟨(h4 a ha).2, (h4 a ha).1⟩⟩
theorem vm_eq {m m' : R α} (h : VM X W E ρ ρ' s e m) (q : m = m') : VM X W E ρ ρ' s e m' := q ▸ h
theorem vma_nil : VMA X W E ρ ρ s [] (.ok ()) := pa_nil.wk fun σ H Q ⟨H0, F, R, k, rl, q⟩ => okH q [] H F [] (Same.refl H) (Ext.refl F H) k (fun a ha => nomatch ha) .nil fun a ha => nomatch ha
theorem vma_cons {m : R α} {mA : R A} (ha : VM X W E ρ ρ1 s e m) (hr : VMA X W E ρ1 ρ2 s es mA) (hs : starEach (e :: es) X.env = (false, eval e X.env) :: starEach es X.env := by rfl) : VMA X W E ρ ρ2 s (e :: es) (m.bind fun x => mA.bind fun y => .ok (x, y)) :=
  (pa_cons ha hr hs).wk fun σ H Q ⟨H0, F, R, k, rl, q⟩ => ⟨H0, F, R, k, rl, (hd_bind q).imp fun x p v H1 F1 fp s1 x1 k1 d1 w1 n1 => ⟨H0, F1, fp ++ R, k1, (fun a ha => by
    rcases List.mem_append.mp ha with h | h
    · exact w1.live a h
    · obtain ⟨o, e'⟩ := rl a h
      exact ⟨o, s1 a o e'⟩), ((hd_bind p).heap s1).imp fun y p2 vs H2 F2 fq s2 x2 k2 d2 w2 n2 => by
    have keep : ∀ a ∈ fp, H2 a = H1 a ∧ F2 a = none := fun a ha => by
      obtain ⟨o, e'⟩ := w1.live a ha
      exact ⟨(s2 a o e').trans e'.symm, x2.out e' (n1 a ha).2⟩
    refine okH p2 (v :: vs) H2 F2 (fp ++ fq) (s1.trans s2) (x1.trans s1 x2) (k2.congr fun a ha => ?_) (fun a ha hr => ?_) (.cons (w1.mono x2.up fun a ha => (keep a ha).1) w2 fun a ha hb => d2 a hb (List.mem_append.mpr (.inl ha))) fun a ha => ?_
    · rcases List.mem_append.mp ha with h | h
      · rcases List.mem_append.mp h with h | h
        · exact List.mem_append.mpr (.inr (List.mem_append.mpr (.inl h)))
        · exact List.mem_append.mpr (.inl h)
      · exact List.mem_append.mpr (.inr (List.mem_append.mpr (.inr h)))
    · rcases List.mem_append.mp ha with h | h
      · exact d1 a h hr
      · exact d2 a h (List.mem_append.mpr (.inr hr))
    · rcases List.mem_append.mp ha with h | h
      · exact ⟨(n1 a h).1, (keep a h).2⟩
      · exact n2 a h⟩⟩
theorem vm_lst {mA : R A} (f : A → α) (h : VMA X W E ρ ρ' s es mA) (hf : ∀ x, en (f x) = .list (enl x) := by intro _; rfl) (hz : ∀ x : A, Nat.ble (enl x).length 64 = true := by intro _; rfl) : VM X W E ρ ρ' (.lst s) (.List es pos) (mA.map f) :=
  (pe_lst h).wk fun σ H Q ⟨H0, F, R, kk, rl, q⟩ => ⟨H0, F, R, kk, rl, (hd_map q).imp fun x p vs H1 F1 fp s1 x1 k1 d1 w1 n1 => by
    have l := w1.len
    have l2 := Nat.le_of_ble_eq_true (hz x)
    have l3 : (64 : Nat) ≤ sizeLine := by decide
    refine ⟨by omega, fun pa hp => ?_⟩
    have np : pa ∉ fp := fun hx => by
      obtain ⟨o, e⟩ := w1.live pa hx
      rw [hp] at e; cases e
    have k2 := (k1.grow (same_upd (o := .lst vs) hp) (Ext.refl F1 H1) (k1.sub.trans (same_upd hp)))
    have k3 : EnvR X.K W.rc H0 F1 (upd H1 pa (.lst vs)) X.N.length σ ρ' ((pa :: fp) ++ R) := by
      have := (k1.more (fp := [pa]) fun a ha => by rw [List.mem_singleton.mp ha]; exact hp).grow (same_upd (o := .lst vs) hp) (Ext.refl F1 H1) (k1.sub.trans (same_upd hp))
      exact this
    refine p (.ref pa) _ F1 (pa :: fp) (s1.trans (same_upd hp)) x1 k3 (fun a ha hr => ?_) ?_ fun a ha => ?_
    · rcases List.mem_cons.mp ha with rfl | ha
      · obtain ⟨o, e⟩ := rl a hr
        have := s1 a o e
        rw [hp] at this; cases this
      · exact d1 a ha hr
    · rw [hf]
      exact .lst upd_same (w1.mono (Same.refl F1) fun a ha => upd_ne fun z => np (z ▸ ha)) np
    · rcases List.mem_cons.mp ha with rfl | ha
      · exact ⟨none_back k1.same hp, none_back k1.sub hp⟩
      · exact n1 a ha⟩
theorem vm_tup {k} {mA : R A} (f : A → α) (h : VMA X W E ρ ρ' s es mA) (hf : ∀ x, en (f x) = .tuple (enl x) := by intro _; rfl) (hz : ∀ x : A, Nat.ble (enl x).length 64 = true := by intro _; rfl) : VM X W E ρ ρ' (.tup s) (.Tuple es k pos) (mA.map f) :=
  (pe_tup h).wk fun σ H Q ⟨H0, F, R, kk, rl, q⟩ => ⟨H0, F, R, kk, rl, (hd_map q).imp fun x p vs H1 F1 fp s1 x1 k1 d1 w1 n1 => by
    have l := w1.len
    have l2 := Nat.le_of_ble_eq_true (hz x)
    have l3 : (64 : Nat) ≤ sizeLine := by decide
    refine ⟨by omega, fun pa hp => ?_⟩
    have np : pa ∉ fp := fun hx => by
      obtain ⟨o, e⟩ := w1.live pa hx
      rw [hp] at e; cases e
    have k3 : EnvR X.K W.rc H0 F1 (upd H1 pa (.tup vs)) X.N.length σ ρ' ((pa :: fp) ++ R) := by
      have := (k1.more (fp := [pa]) fun a ha => by rw [List.mem_singleton.mp ha]; exact hp).grow (same_upd (o := .tup vs) hp) (Ext.refl F1 H1) (k1.sub.trans (same_upd hp))
      exact this
    refine p (.ref pa) _ F1 (pa :: fp) (s1.trans (same_upd hp)) x1 k3 (fun a ha hr => ?_) ?_ fun a ha => ?_
    · rcases List.mem_cons.mp ha with rfl | ha
      · obtain ⟨o, e⟩ := rl a hr
        have := s1 a o e
        rw [hp] at this; cases this
      · exact d1 a ha hr
    · rw [hf]
      exact .tup upd_same (w1.mono (Same.refl F1) fun a ha => upd_ne fun z => np (z ▸ ha)) np
    · rcases List.mem_cons.mp ha with rfl | ha
      · exact ⟨none_back k1.same hp, none_back k1.sub hp⟩
      · exact n1 a ha⟩
/-- xs + ys of owned lists -/
theorem vm_cat {δ : Type} [En δ] {m n : R (List δ)} (ha : VM X W E ρ ρ1 (.lst s) a m) (hb : VM X W E ρ1 ρ2 (.lst s) b n) : VM X W E ρ ρ2 (.lst s) (.BinOp a .Add b pos) (m.bind fun x => n.bind fun y => catR x y) :=
  (pe_op op_catR ha hb).wk fun σ H Q ⟨H0, F, R, k, rl, q⟩ => ⟨H0, F, R, k, rl, (hd_bind q).imp fun x p v H1 F1 fp s1 x1 k1 d1 w1 n1 => ⟨H0, F1, fp ++ R, k1, (fun a ha => by
    rcases List.mem_append.mp ha with h | h
    · exact w1.live a h
    · obtain ⟨o, e'⟩ := rl a h
      exact ⟨o, s1 a o e'⟩), ((hd_bind p).heap s1).imp fun y p2 u H2 F2 fq s2 x2 k2 d2 w2 n2 => by
    have w1' : Ow X.K W.rc F1 H1 (.lst s) v (.list (x.map en)) fp := w1
    have w2' : Ow X.K W.rc F2 H2 (.lst s) u (.list (y.map en)) fq := w2
    cases w1' with
    | sc z _ => cases z
    | lst z1 z2 z3 =>
      cases w2' with
      | sc z _ => cases z
      | lst y1 y2 y3 =>
        rename_i pa xs fx pb ys fy
        have l1 := z2.len
        have l2 := y2.len
        rw [List.length_map] at l1 l2
        unfold catR at p2
        by_cases hz : x.length + y.length ≤ big
        case neg => rw [if_neg hz] at p2; exact p2.elim
        rw [if_pos hz] at p2
        refine ⟨pa, pb, xs, ys, rfl, rfl, .inl (.inl (s2 _ _ z1)), .inl (.inl y1), Nat.le_trans (by omega) big_le, fun pn hp => ?_⟩
        have keep : ∀ c ∈ fx, H2 c = H1 c ∧ F2 c = none := fun c hc => by
          obtain ⟨o, e'⟩ := z2.live c hc
          exact ⟨(s2 c o e').trans e'.symm, x2.out e' (n1 c (List.mem_cons_of_mem _ hc)).2⟩
        have dis : ∀ c ∈ fx, c ∉ fy := fun c hc hd => d2 c (List.mem_cons_of_mem _ hd) (List.mem_append.mpr (.inl (List.mem_cons_of_mem _ hc)))
        obtain ⟨fr, r1, r2⟩ := OwA.app (z2.mono x2.up fun c hc => (keep c hc).1) y2 dis
        have sub : ∀ c ∈ fr, c ∈ fx ∨ c ∈ fy := fun c hc => (r1 c).mp hc
        have npr : pn ∉ fr := fun hx => by
          obtain ⟨o, e⟩ := r2.live pn hx
          rw [hp] at e; cases e
        have k3 : EnvR X.K W.rc H0 F2 (upd H2 pn (.lst (xs ++ ys))) X.N.length σ ρ2 ((pn :: fr) ++ R) := by
          have := (k2.more (fp := [pn]) fun c hc => by rw [List.mem_singleton.mp hc]; exact hp).grow (same_upd (o := .lst (xs ++ ys)) hp) (Ext.refl F2 H2) (k2.sub.trans (same_upd hp))
          refine this.congr fun c hc => ?_
          rcases List.mem_append.mp hc with h | h
          · rcases List.mem_cons.mp h with e | h
            · exact List.mem_append.mpr (.inl (by rw [e]; exact List.mem_cons_self))
            · refine List.mem_append.mpr (.inr ?_)
              rcases sub c h with h | h
              · exact List.mem_append.mpr (.inr (List.mem_append.mpr (.inl (List.mem_cons_of_mem _ h))))
              · exact List.mem_append.mpr (.inl (List.mem_cons_of_mem _ h))
          · exact List.mem_append.mpr (.inr (List.mem_append.mpr (.inr (List.mem_append.mpr (.inr h)))))
        refine okH p2 (.ref pn) _ F2 (pn :: fr) ((s1.trans s2).trans (same_upd hp)) (x1.trans s1 x2) k3 (fun c hc hr => ?_) ?_ fun c hc => ?_
        · rcases List.mem_cons.mp hc with rfl | hc
          · obtain ⟨o, e⟩ := rl c hr
            have := s2 c o (s1 c o e)
            rw [hp] at this; cases this
          · rcases sub c hc with h | h
            · exact d1 c (List.mem_cons_of_mem _ h) hr
            · exact d2 c (List.mem_cons_of_mem _ h) (List.mem_append.mpr (.inr hr))
        · show Ow X.K W.rc F2 _ (.lst s) (.ref pn) (.list ((x ++ y).map en)) _
          rw [List.map_append]
          exact .lst upd_same (r2.mono (Same.refl F2) fun c hc => upd_ne fun z => npr (z ▸ hc)) npr
        · rcases List.mem_cons.mp hc with rfl | hc
          · exact ⟨none_back k2.same hp, none_back k2.sub hp⟩
          · rcases sub c hc with h | h
            · exact ⟨(n1 c (List.mem_cons_of_mem _ h)).1, (keep c h).2⟩
            · exact n2 c (List.mem_cons_of_mem _ h)⟩⟩
/-! ### where it goes -/
theorem vb_setM {m : R α} {k : α → R β} (h : PS X st (tAsg (tM X.K W E X.N.length ρ ρ' s m) (gName i))) (hr : ∀ x, VB X W E (se ρ' i (.vl (.ow s none) (en x))) rest (k x) out) (hi : Nat.blt i X.N.length = true := by rfl) : VB X W E ρ (st :: rest) (m.bind k) out :=
  (pss_cons h (pss_any hr)).wk fun De σ H ⟨H0, F0, F, kk, x, q⟩ => ⟨H0, F, [], kk.toR, (fun a ha => nomatch ha), ((hds_bind q).hd σ kk.same).imp fun a q v H1 F1 fp s1 x1 k1 _ w n =>
    ⟨a, H0, F0, F1, (k1.congr fun c hc => List.mem_append.mpr (.inl hc)).set (Nat.le_of_ble_eq_true hi) w n, x.trans kk.same x1, q⟩⟩
theorem vb_retM {m : R α} {m' : R β} {inj : α → β} (h : PS X st (tRet (tM X.K W E X.N.length ρ ρ' s m))) (q : (m.bind fun x => .ok (inj x)) = m') (ho : ∀ a, out (inj a) = .rt s (en a) none := by intro _; rfl) : VB X W E ρ [st] m' out := by
  subst q
  exact (pss_one h).wk fun De σ H ⟨H0, F0, F, kk, x, q⟩ => ⟨H0, F, [], kk.toR, (fun a ha => nomatch ha), ((hds_bind q).hd σ kk.same).imp fun a q v H1 F1 fp s1 x1 k1 _ w n => by
    have q : SPost X.K W X.N.length H0 F0 De (out (inj a)) := q
    rw [ho] at q
    exact q v H1 F1 fp (kk.same.trans s1) (x.trans kk.same x1) k1.sub w n⟩
/-- xs.append(y): y is handed on -/
theorem vb_appM {l : List γ} {m : R γ} {m' : R (List γ)} {k : List γ → R β} (h : PS X st (tDrop (tBM X.K "list" rAppend (tVar i) (tCons (tM X.K W E X.N.length ρ ρ' s2 m) tNil)))) (hi : ρ i = .vl (.ow (.lst s2) r) (en l)) (hi' : ρ' i = .vl (.ow (.lst s2) r) (en l)) (q : (m.bind fun x => appR l x) = m') (hr : ∀ z, VB X W E (se ρ' i (.vl (.ow (.lst s2) r) (en z))) rest (k z) out) : VB X W E ρ (st :: rest) (m'.bind k) out := by
  subst q
  simp only [R.bind_assoc]
  refine (pss_cons h (pss_any hr)).wk fun De σ H ⟨H0, F0, F, kk, x, q⟩ => ?_
  obtain ⟨v, fp, o⟩ := kk.own hi
  have wl : Ow X.K W.rc F H (.lst s2) v (.list (l.map en)) fp := o.ow
  cases wl with
  | sc z _ => cases z
  | lst z1 z2 z3 =>
    rename_i pa xs fx
    refine ⟨_, o.at_, .inl ⟨rfl, xs, SqL.of z1⟩, H0, F, [], kk.toR, (fun a ha => nomatch ha), ((hds_bind q).hd σ kk.same).imp fun y q1 u H1 F1 fq s1 x1 k1 _ w n => ?_⟩
    have k1 := k1.congr (R' := fq) fun c hc => List.mem_append.mpr (.inl hc)
    have q1 := hds_bind q1
    have l1 := z2.len
    rw [List.length_map] at l1
    unfold appR at q1
    by_cases hz : l.length < big
    case neg => rw [if_neg hz] at q1; exact q1.elim
    rw [if_pos hz] at q1
    have hv : σ[i]? = some (some (.ref pa)) := o.at_
    refine ⟨pa, xs, u, rfl, rfl, s1 _ _ z1, Nat.lt_of_lt_of_le (by omega) big_le, l ++ [y], H0, F0, F1, ?_, x.trans kk.same x1, q1⟩
    refine k1.mut (ho := .lst (xs ++ [u])) (gz := []) hi' hv (fun gi wi dj => ?_) n
    have wi : Ow X.K W.rc F1 H1 (.lst s2) (.ref pa) (.list (l.map en)) gi := wi
    cases wi with
    | sc z _ => cases z
    | lst y1 y2 y3 =>
      rename_i xs' fy
      have ex : xs' = xs := by
        have := s1 _ _ z1
        rw [y1] at this; cases this; rfl
      subst ex
      refine ⟨List.mem_cons_self, ?_⟩
      have np : pa ∉ fq := dj pa List.mem_cons_self
      have w3 : Ow X.K W.rc F1 (upd H1 pa (.lst (xs' ++ [u]))) s2 u (en y) fq := w.mono (Same.refl F1) fun c hc => upd_ne fun z => np (z ▸ hc)
      obtain ⟨fr, r1, r2⟩ := OwA.snoc w3 (y2.mono (Same.refl F1) fun c hc => upd_ne fun z => y3 (z ▸ hc)) fun c hc hd => dj c (List.mem_cons_of_mem _ hc) hd
      have nr : pa ∉ fr := fun hp => by
        rcases (r1 pa).mp hp with h | h
        · exact y3 h
        · exact np h
      refine ⟨pa :: fr, ?_, fun c hc => ?_⟩
      · show Ow X.K W.rc F1 _ (.lst s2) (.ref pa) (.list ((l ++ [y]).map en)) _
        rw [List.map_append]
        exact .lst upd_same r2 nr
      · rcases List.mem_cons.mp hc with e | hc
        · exact .inl (by rw [e]; exact List.mem_cons_self)
        · rcases (r1 c).mp hc with h | h
          · exact .inl (List.mem_cons_of_mem _ h)
          · exact .inr h
end
end Tx

set_option Elab.async false
set_option linter.all false
set_option maxRecDepth 100000
set_option maxHeartbeats 4000000
/-! A22: further stores. -/
namespace Tx
open PySem L2 PyProof.Rows En EnL

section
variable {K : PySem.W.Frag} {C : Rc} {H0 F H : Hp} {L : Nat} {σ : L2.St} {ρ : Env} {j : Nat} {v : V} {d : D}
theorem EnvS.addfz (k : EnvS K C H0 F H L σ ρ) (hv : σ[j]? = some (some v)) (rp : Rp K C F v d) : EnvS K C H0 F H L σ (se ρ j (.vl .fz d)) := by
  obtain ⟨gp, h1, h2⟩ := k.sl
  refine ⟨k.same, k.sub, k.len, fset gp j [], fun i m e q => ?_, fun a b s r d t q e n z1 z2 y hy => ?_⟩
  · by_cases z : i = j
    · subst z
      rw [se_same] at q; cases q
      exact ⟨v, hv, fset_same _ _ _, rp⟩
    · rw [se_ne _ _ z] at q
      rw [fset_ne _ _ z]
      exact h1 i m e q
  · have na : a ≠ j := fun w => by subst w; rw [se_same] at z1; cases z1
    have nb : b ≠ j := fun w => by subst w; rw [se_same] at z2; cases z2
    rw [se_ne _ _ na] at z1
    rw [se_ne _ _ nb] at z2
    rw [fset_ne _ _ na] at hy
    rw [fset_ne _ _ nb]
    exact h2 a b s r d t q e n z1 z2 y hy
theorem ixAt_lt {n : Nat} {i : Int} {k : Nat} (hk : ixAt n i = some k) : k < n := by
  unfold ixAt at hk
  split at hk
  · split at hk
    · cases hk; omega
    · cases hk
  · split at hk
    · cases hk; omega
    · cases hk
end
section
variable {X : Cx} {W : Vp} {E : L2.St → XK} {ρ ρ' : Env} {s s2 s' : Sh} {e o : Expr} {pos pos' : Pos} {i j : Nat} {α β γ : Type} [En α] [En γ] {r : Option V} {out : β → Out} {st st1 st2 : Stmt} {rest : List Stmt} {cn f : Str} {ns fl : List Str} {ss : List Sh} {ds : List D}
/-- xs[k] op= e of ints -/
theorem tb_augS {g : Int → Int → Int} {a : α} {mp : R (List Int × (List Int → α))} {mk me : R Int} {m' : R α} {k : α → R β} (h : PS X st (tAugS (tP X.K W E X.N.length ρ i s r a (.lst s2) mp) (tE X.K W E X.N.length ρ .frz mk) (tE X.K W E X.N.length ρ .frz me) (rIxL X.K) (ipI g) rSetL)) (q : (mp.bind fun p => mk.bind fun j => (ixR p.1 j).bind fun x => me.bind fun y => (putR p.1 j (g x y)).bind fun c => .ok (p.2 c)) = m') (hr : ∀ z : α, VB X W E (se ρ i (.vl (.ow s r) (en z))) rest (k z) out) (hi : ρ i = .vl (.ow s r) (en a) := by rfl) :
    VB X W E ρ (st :: rest) (m'.bind k) out := by
  subst q
  simp only [R.bind_assoc, R.okb]
  refine (pss_cons h (pss_any hr)).wk fun De σ H ⟨H0, F0, F, kk, x, q⟩ => ?_
  obtain ⟨v, fp, o⟩ := kk.own hi
  refine ⟨H0, F, kk, v, fp, o, ((hds_bind q).hd σ kk.same).imp fun p q1 v' fa H1 F1 s1 x1 f1 foc => ?_⟩
  have k1 := kk.grow s1 x1 f1
  refine ⟨H0, F1, k1, ((hds_bind q1).hd σ k1.same).imp fun jj q2 t H2 F2 _ s2' x2 f2 w2 _ => ?_⟩
  have ej := int_rp w2.toRp.2
  subst ej
  have k2 := k1.grow s2' x2 f2
  obtain ⟨og, _⟩ := o.grow s1 x1
  have foc2 := foc.grow og x2.up s2'
  have wl : Ow X.K W.rc F2 H2 (.lst s2) v' (.list (p.1.map en)) fa := foc2.1
  cases wl with
  | sc z _ => cases z
  | lst z1 z2 z3 =>
    rename_i pa xs fx
    have l := z2.len
    rw [List.length_map] at l
    have q2 := hds_bind q2
    unfold ixR at q2
    cases hk : ixAt p.1.length jj with
    | none => rw [hk] at q2; exact q2.elim
    | some kx =>
      rw [hk] at q2
      have hlt := ixAt_lt hk
      simp only [List.getElem?_eq_getElem hlt] at q2
      have q2 : HdS E W H0 (me.bind fun y => (putR p.1 jj (g p.1[kx] y)).bind fun c => k (p.2 c)) _ := q2
      have kmap : (p.1.map en)[kx]? = some (en p.1[kx]) := by rw [List.getElem?_map, List.getElem?_eq_getElem hlt]; rfl
      obtain ⟨vc, fc, fd, y1, y2, y3, y4, y5⟩ := z2.focus kmap
      have evc : vc = .int p.1[kx] := by
        generalize p.1[kx] = ii at y2
        have y2 : Ow X.K W.rc F2 H2 s2 vc (.int ii) fc := y2
        cases y2 with
        | sc z r => cases r; rfl
        | fz r => cases r; rfl
      refine ⟨pa, xs, jj, vc, rfl, rfl, SqL.of z1, ?_, ?_⟩
      · show (ixN xs.length jj).bind (fun j => xs[j]?) = some vc
        have : ixN xs.length jj = some kx := by rw [l]; exact hk
        rw [this]; exact y1
      · refine ⟨H0, F2, k2, ((hds_bind q2).hd σ k2.same).imp fun y q3 u H3 F3 _ s3 x3 f3 w3 _ => ?_⟩
        have eu := int_rp w3.toRp.2
        subst eu
        subst evc
        have q3 := hds_bind q3
        unfold putR at q3
        rw [hk] at q3
        have q3 : HdS E W H0 (k (p.2 (p.1.set kx (g p.1[kx] y)))) _ := q3
        refine ⟨p.1[kx], y, rfl, rfl, ?_⟩
        have s12 := s1.trans s2'
        have x12 := x1.trans s1 x2
        refine ⟨pa, xs, jj, kx, rfl, rfl, s3 _ _ z1, by rw [l]; exact hk, p.2 (p.1.set kx (g p.1[kx] y)), H0, F0, F3, ?_, x.trans kk.same (x12.trans s12 x3), q3⟩
        have keep : ∀ b ∈ fx, upd H3 pa (.lst (xs.set kx (.int (g p.1[kx] y)))) b = H2 b := fun b hb => by
          rw [upd_ne (fun e => by rw [e] at hb; exact z3 hb)]
          obtain ⟨w, e⟩ := z2.live b hb
          exact (s3 b w e).trans e.symm
        obtain ⟨fr, r1, r2⟩ := y5 F3 (upd H3 pa (.lst (xs.set kx (.int (g p.1[kx] y))))) (.int (g p.1[kx] y)) (.int (g p.1[kx] y)) [] x3.up (fun b hb => keep b ((y3 b).mpr (.inr hb))) (.sc rfl (.int _)) fun b hb => nomatch hb
        have np : pa ∉ fr := fun hp => by
          rcases (r1 pa).mp hp with h | h
          · cases h
          · exact z3 ((y3 pa).mpr (.inr h))
        refine o.mut (z := p.1.set kx (g p.1[kx] y)) (fq := pa :: fr) s12 x12 f2 foc2 s3 x3 f3 (.lst upd_same (by rw [List.map_set]; exact r2) np) kk.sub fun b hb => ?_
        rcases List.mem_cons.mp hb with e | hb
        · exact .inl e
        · rcases (r1 b).mp hb with h | h
          · cases h
          · exact .inr (.inl ((y3 b).mpr (.inr h)))
/-- xs.append(y); xs.append(e): y is handed on, and read once more -/
theorem vb_app2 {l : List γ} {y : γ} {m : R γ} {m' : R (List γ)} {k : List γ → R β} [GrT s2 γ] {r2 : Option V} (h1 : PS X st1 (tDrop (tBM X.K "list" rAppend (tVar i) (tCons (tVar j) tNil)))) (h2 : PS X st2 (tDrop (tBM X.K "list" rAppend (tVar i) (tCons (tE X.K W E X.N.length (se (fzA (se (se ρ j .un) i .un)) j (.vl .fz (en y))) s2 m) tNil)))) (hi : ρ i = .vl (.ow (.lst s2) r) (en l)) (hj : ρ j = .vl (.ow s2 r2) (en y)) (hij : i ≠ j)
    (q : ((appR l y).bind fun l1 => m.bind fun x => appR l1 x) = m') (hr : ∀ z, VB X W E (se (se ρ j .un) i (.vl (.ow (.lst s2) r) (en z))) rest (k z) out) : VB X W E ρ (st1 :: st2 :: rest) (m'.bind k) out := by
  subst q
  simp only [R.bind_assoc]
  refine (pss_cons h1 (pss_cons h2 (pss_any hr))).wk fun De σ H ⟨H0, F0, F, kk, x, q⟩ => ?_
  obtain ⟨v, fp, o⟩ := kk.own hi
  have wl : Ow X.K W.rc F H (.lst s2) v (.list (l.map en)) fp := o.ow
  cases wl with
  | sc z _ => cases z
  | lst z1 z2 z3 =>
    rename_i pa xs fx
    obtain ⟨vj, fj, oj⟩ := kk.own hj
    have l1 := z2.len
    rw [List.length_map] at l1
    have q := hds_bind q
    unfold appR at q
    by_cases hz : l.length < big
    case neg => rw [if_neg hz] at q; exact q.elim
    rw [if_pos hz] at q
    have q : HdS E W H0 (m.bind fun x => (appR (l ++ [y]) x).bind k) _ := q
    refine ⟨_, o.at_, .inl ⟨rfl, xs, SqL.of z1⟩, vj, oj.at_, pa, xs, vj, rfl, rfl, z1, Nat.lt_of_lt_of_le (by omega) big_le, ?_⟩
    -- behind the first
    obtain ⟨v2, fq, t1, t2, t3, t4, t5, t6⟩ := kk.toR.take hj
    rw [oj.at_] at t1; cases t1
    have t6 := t6.congr (R' := fq) fun c hc => List.mem_append.mpr (.inl hc)
    have hv : σ[i]? = some (some (.ref pa)) := o.at_
    have hi' : (se ρ j .un) i = .vl (.ow (.lst s2) r) (en l) := by rw [se_ne _ _ hij]; exact hi
    let H1 := upd H pa (.lst (xs ++ [vj]))
    have k1 : EnvS X.K W.rc H0 F H1 X.N.length σ (se (se ρ j .un) i (.vl (.ow (.lst s2) r) (en (l ++ [y])))) := by
      refine t6.mut (ho := .lst (xs ++ [vj])) (gz := []) hi' hv (fun gi wi dj => ?_) fun c hc => ⟨(t4 c hc).2, (t4 c hc).1⟩
      have wi : Ow X.K W.rc F H (.lst s2) (.ref pa) (.list (l.map en)) gi := wi
      cases wi with
      | sc z _ => cases z
      | lst y1 y2 y3 =>
        rename_i xs' fy
        have ex : xs' = xs := by rw [y1] at z1; cases z1; rfl
        subst ex
        refine ⟨List.mem_cons_self, ?_⟩
        have np : pa ∉ fq := dj pa List.mem_cons_self
        have w3 : Ow X.K W.rc F (upd H pa (.lst (xs' ++ [vj]))) s2 vj (en y) fq := t3.mono (Same.refl F) fun c hc => upd_ne fun z => np (z ▸ hc)
        obtain ⟨fr, r1, r2⟩ := OwA.snoc w3 (y2.mono (Same.refl F) fun c hc => upd_ne fun z => y3 (z ▸ hc)) fun c hc hd => dj c (List.mem_cons_of_mem _ hc) hd
        have nr : pa ∉ fr := fun hp => by
          rcases (r1 pa).mp hp with h | h
          · exact y3 h
          · exact np h
        refine ⟨pa :: fr, ?_, fun c hc => ?_⟩
        · show Ow X.K W.rc F _ (.lst s2) (.ref pa) (.list ((l ++ [y]).map en)) _
          rw [List.map_append]
          exact .lst upd_same r2 nr
        · rcases List.mem_cons.mp hc with e | hc
          · exact .inl (by rw [e]; exact List.mem_cons_self)
          · rcases (r1 c).mp hc with h | h
            · exact .inl (List.mem_cons_of_mem _ h)
            · exact .inr h
    -- what y is, in the heap as it is now
    have nj : pa ∉ fq := by
      obtain ⟨gp2, a1, a2, a3⟩ := t6.sl
      obtain ⟨u3, b1, b2⟩ := a1 i _ _ hi'
      rw [hv] at b1; cases b1
      have w : Ow X.K W.rc F H (.lst s2) (.ref pa) (.list (l.map en)) (gp2 i) := b2.2.1
      refine a3 i _ _ _ hi' pa ?_
      generalize gp2 i = gi at w
      cases w with
      | sc z _ => cases z
      | lst _ _ _ => exact List.mem_cons_self
    have rj : Rp X.K W.rc H1 vj (en y) := (t3.mono (H' := H1) (Same.refl F) fun c hc => upd_ne fun z => nj (z ▸ hc)).rp k1.sub fun _ _ => rfl
    have kA : EnvS X.K W.rc H1 H1 H1 X.N.length σ (se (fzA (se (se ρ j .un) i .un)) j (.vl .fz (en y))) := by
      have k2 : EnvS X.K W.rc H0 F H1 X.N.length σ (se (se ρ j .un) i .un) := k1.le fun n => by
        by_cases z : n = i
        · subst z; exact .inl (se_same _ _ _)
        · rw [se_ne _ _ z, se_ne _ _ z]; exact .inr rfl
      exact k2.all.addfz oj.at_ rj
    have z1' : H1 pa = some (.lst (xs ++ [vj])) := upd_same
    refine ⟨_, hv, .inl ⟨rfl, _, SqL.of z1'⟩, H1, H1, kA, ((hds_bind q).hd σ k1.same).imp fun a q1 u H2 F2 fq2 s2' x2 f2 w2 n2 => ?_⟩
    have q1 := hds_bind q1
    unfold appR at q1
    by_cases hz2 : (l ++ [y]).length < big
    case neg => rw [if_neg hz2] at q1; exact q1.elim
    rw [if_pos hz2] at q1
    rw [List.length_append, List.length_singleton] at hz2
    refine ⟨pa, xs ++ [vj], u, rfl, rfl, s2' _ _ z1', Nat.lt_of_lt_of_le (by rw [List.length_append, List.length_singleton]; omega) big_le, l ++ [y] ++ [a], H0, F0, F, ?_, x, q1⟩
    have wg : Ow X.K W.rc F H2 s2 u (en a) fq2 := w2.ground (GrT.gr a)
    have k3 := ((k1.toR.more (fp := fq2) fun c hc => (n2 c hc).1).grow s2' (Ext.refl F H1) (k1.sub.trans s2')).congr (R' := fq2) fun c hc => List.mem_append.mpr (.inl hc)
    have k4 := k3.mut (i := i) (s := .lst s2) (r := r) (d := en (l ++ [y])) (p := pa) (ho := .lst (xs ++ [vj] ++ [u])) (gz := []) (s2 := .lst s2) (d2 := en (l ++ [y] ++ [a])) (u := .ref pa) (se_same _ _ _) hv (fun gi wi dj => by
      have wi : Ow X.K W.rc F H2 (.lst s2) (.ref pa) (.list ((l ++ [y]).map en)) gi := wi
      cases wi with
      | sc z _ => cases z
      | lst y1 y2 y3 =>
        rename_i xs' fy
        have ex : xs' = xs ++ [vj] := by
          have := s2' _ _ z1'
          rw [y1] at this; cases this; rfl
        subst ex
        refine ⟨List.mem_cons_self, ?_⟩
        have np : pa ∉ fq2 := dj pa List.mem_cons_self
        have w3 : Ow X.K W.rc F (upd H2 pa (.lst (xs ++ [vj] ++ [u]))) s2 u (en a) fq2 := wg.mono (Same.refl F) fun c hc => upd_ne fun z => np (z ▸ hc)
        obtain ⟨fr, r1, r2⟩ := OwA.snoc w3 (y2.mono (Same.refl F) fun c hc => upd_ne fun z => y3 (z ▸ hc)) fun c hc hd => dj c (List.mem_cons_of_mem _ hc) hd
        have nr : pa ∉ fr := fun hp => by
          rcases (r1 pa).mp hp with h | h
          · exact y3 h
          · exact np h
        refine ⟨pa :: fr, ?_, fun c hc => ?_⟩
        · show Ow X.K W.rc F _ (.lst s2) (.ref pa) (.list ((l ++ [y] ++ [a]).map en)) _
          rw [List.map_append]
          exact .lst upd_same r2 nr
        · rcases List.mem_cons.mp hc with e | hc
          · exact .inl (by rw [e]; exact List.mem_cons_self)
          · rcases (r1 c).mp hc with h | h
            · exact .inl (List.mem_cons_of_mem _ h)
            · exact .inr h) fun c hc => ⟨none_back k1.same (n2 c hc).1, none_back k1.sub (n2 c hc).1⟩
    refine k4.le fun n => ?_
    by_cases z : n = i
    · subst z; rw [se_same, se_same]; exact .inr rfl
    · rw [se_ne _ _ z, se_ne _ _ z, se_ne _ _ z]; exact .inr rfl
/-- o.f = e: what is owned is handed on to a field that is there -/
theorem vb_fldM {m : R α} {kk : α → R β} {dj : D} {sj : Sh} (c : ClsI X.K W cn fl) (hf : f ∈ fl) (hj : idxS f ns = some j) (h : PE X o (tVar i)) (hi' : ρ' i = .vl (.ow (.ins cn (zipS ns ss)) r) (insV cn ns ds)) (hd : ds[j]? = some dj) (hs : ss[j]? = some sj) (he : VM X W E ρ ρ' s2 e m)
    (hrest : ∀ x, VB X W E (se ρ' i (.vl (.ow (.ins cn (zipS ns (ss.set j s2))) r) (insV cn ns (ds.set j (en x))))) rest (kk x) out) (hl : ns.length = ds.length := by rfl) (hl2 : ns.length = ss.length := by rfl) (hn : ns.length < 1000 := by decide) (hsw : swapsWith e (some (.Attribute o f pos')) pos.line X.env = pure false := by rfl) :
    VB X W E ρ (.Assign [.Attribute o f pos'] e pos :: rest) (m.bind kk) out := (pss_cons (ps_fld h he hsw) (pss_any hrest)).wk fun De σ H ⟨H0, F0, F, k0, x, q⟩ => by
  refine ⟨H0, F, [], k0.toR, (fun a ha => nomatch ha), ((hds_bind q).hd σ k0.same).imp fun y q1 u H1 F1 fq s1' x1 k1 _ w1 n1 => ?_⟩
  have k1 := k1.congr (R' := fq) fun c hc => List.mem_append.mpr (.inl hc)
  obtain ⟨gp, g1, g2, g3⟩ := k1.sl
  obtain ⟨v, hv, hvm⟩ := g1 i _ _ hi'
  obtain ⟨a, c', dx, fs, fz, ev, hc', ho', efp, hw, na⟩ := ow_ins hvm.2.1
  subst ev
  have hnm := owf_zip hl hl2 hw
  obtain ⟨C, e1, cl, nat⟩ := c.ex
  rw [e1] at hc'; cases hc'
  have lf : fs.length = ns.length := by rw [← hnm, List.length_map]
  refine ⟨_, hv, a, _, dx, fs, rfl, ho', cl, nat f hf, by omega, y, H0, F0, F1, ?_, x.trans k0.same x1, q1⟩
  refine k1.mut (ho := .ins c' dx (putF f u fs)) (gz := []) hi' hv (fun gi wi dj' => ?_) n1
  obtain ⟨a2, c2, dx2, fs2, fz2, ev2, hc2, ho2, efp2, hw2, na2⟩ := ow_ins wi
  cases ev2
  rw [ho'] at ho2; cases ho2
  refine ⟨by rw [efp2]; exact List.mem_cons_self, ?_⟩
  obtain ⟨g, v0, fa, fb, p1, p2, p3, p4, p5, p6⟩ := owf_focus hl hl2 hw2 hs hd
  have eg : g = f := by have := idx_lt hj; rw [p1] at this; cases this; rfl
  subst eg
  have nq : a ∉ fq := dj' a (by rw [efp2]; exact List.mem_cons_self)
  obtain ⟨fr, r1, r2⟩ := p6 F1 (upd H1 a (.ins c' dx (putF g u fs))) s2 u (en y) fq (Same.refl F1) (fun b hb => upd_ne fun z => na2 (z ▸ (p4 b).mpr (.inr hb))) (w1.mono (Same.refl F1) fun b hb => upd_ne fun z => nq (z ▸ hb)) fun b hb hc => dj' b (by rw [efp2]; exact List.mem_cons_of_mem _ ((p4 b).mpr (.inr hc))) hb
  have nr : a ∉ fr := fun hr => by
    rcases (r1 a).mp hr with h | h
    · exact nq h
    · exact na2 ((p4 a).mpr (.inr h))
  refine ⟨a :: fr, .ins e1 upd_same (by rw [put_idx hnm hj]; rw [put_idx hnm hj] at r2; exact r2) nr, fun b hb => ?_⟩
  rcases List.mem_cons.mp hb with e | hb
  · exact .inl (by rw [efp2, e]; exact List.mem_cons_self)
  · rcases (r1 b).mp hb with h | h
    · exact .inr h
    · exact .inl (by rw [efp2]; exact List.mem_cons_of_mem _ ((p4 b).mpr (.inr h)))
end
section
variable {X : Cx} {W : Vp} {E : L2.St → XK} {ρ : Env} {rest body : List Stmt} {tg iter : Expr} {pos : Pos} {α β S : Type} [En α] {mi : R (List α)} {k : S → R β} {out : β → Out} {s0 : S} {g : GF}
/-- a for while which the slot i is lent -/
theorem tb_forL {f : α → S → R S} {ei : V → S → Env} {ρy : V → α → S → Env} {ρ2 : S → Env} {s : Sh} {r : Option V} {d : D} (i : Nat) (hx : ∀ v x s, g (en x) (ei v s) = some (ρy v x s)) (hi : ρ i = .vl (.ow s r) d) (hp : PassesOwn (model X.prog X.w) X.A X.env X.xe) (hc : X.calm = true) (hit : ∀ v, VI X W E (se ρ i (.vl (.bw s (some v)) d)) true tg iter mi) (hg : VG X W (fun _ => true) tg g)
    (hl : ∀ v, Le (ei v s0) (se ρ i (.vl (.bw s (some v)) d))) (hb : ∀ v x s, VB X W E (ρy v x s) body (f x s) fun s' => .nc (ei v s')) (hr : ∀ s, VB X W E (ρ2 s) rest (k s) out) (hk : ∀ v s', Back i ρ (ei v s') (ρ2 s'))
    (h1 : ∀ v s', ei v s' i = .vl (.bw s (some v)) d := by intro _ _; rfl) (h2 : ∀ s', ρ2 s' i = .vl (.ow s r) d := by intro _; rfl) (hs : ∀ z, foldedSetIterable iter X.env z = pure z := by intro _; rfl) :
    VB X W E ρ (.For tg iter body [] pos :: rest) (mi.bind fun xs => (forR f xs s0).bind k) out := vb_forL i hi hp hc hit hg hl hb hr hk hx h1 h2 hs
end
end Tx

set_option Elab.async false
set_option linter.all false
set_option maxRecDepth 100000
set_option maxHeartbeats 4000000
/-! A23: dicts with int keys. -/
namespace Tx
open PySem L2 PyProof.Rows En EnL

section
variable {α : Type}
def dcV (l : List (Int × α)) (k : Int) : Option α := (l.find? fun p => decide (p.1 = k)).map (·.2)
def dcPut (l : List (Int × α)) (k : Int) (a : α) : List (Int × α) := if (l.any fun p => decide (p.1 = k)) = true then l.map (fun p => if p.1 = k then (p.1, a) else p) else l ++ [(k, a)]
def dgetR (d : Dc Int α) (k : Int) : R α :=
  match dcV d.l k with
  | some a => .ok a
  | none => .no
def dputR (d : Dc Int α) (k : Int) (a : α) : R (Dc Int α) := if d.l.length < big then .ok ⟨dcPut d.l k a⟩ else .no
variable [En α] {K : PySem.W.Frag} {C : Rc} {F H : Hp}
theorem rk_v : ∀ {fs : List (Key × V)} {l : List (Int × α)} (k : Int), RpK K C F fs (l.map fun p => (en p.1, en p.2)) → (∀ a, dcV l k = some a → ∃ v, valV fs (Sum.inl k) = some v ∧ Rp K C F v (en a)) ∧ (dcV l k = none → valV fs (Sum.inl k) = none)
  | [], [], k, _ => ⟨(fun _ h => by cases h), fun _ => rfl⟩
  | (k0, v0) :: fs, (i, a0) :: l, k, h => by
    rw [List.map_cons] at h
    generalize he : ((en i, en a0) : D × D) = p0 at h
    cases h with
    | cons h1 h2 =>
      have e1 : keyD k0 = .int i := (Prod.mk.inj he).1.symm
      have e2 := (Prod.mk.inj he).2
      have ek : k0 = Sum.inl i := by
        cases k0 with
        | inl x => have e1 : PyData.int x = .int i := e1; cases e1; rfl
        | inr x => have e1 : PyData.str x = .int i := e1; cases e1
      subst ek
      obtain ⟨a1, a2⟩ := rk_v k h2
      by_cases q : i = k
      · subst q
        rw [valV_pos rfl]
        refine ⟨fun a ha => ⟨v0, rfl, ?_⟩, fun hn => ?_⟩
        · have : a0 = a := by simpa [dcV] using ha
          rw [← this, e2]; exact h1
        · simp [dcV] at hn
      · rw [valV_neg (p := (Sum.inl i, v0)) fun z => q (Sum.inl.inj z)]
        have : dcV ((i, a0) :: l) k = dcV l k := by simp [dcV, q]
        rw [this]; exact ⟨a1, a2⟩
  | [], _ :: _, _, h => by cases h
  | _ :: _, [], _, h => by cases h
theorem rk_len : ∀ {fs : List (Key × V)} {ds : List (D × D)}, RpK K C F fs ds → fs.length = ds.length
  | _, _, .nil => rfl
  | _, _, .cons _ t => congrArg (· + 1) (rk_len t)
theorem rk_map : ∀ {fs : List (Key × V)} {l : List (Int × α)} (k : Int) {v : V} {a : α}, RpK K C F fs (l.map fun p => (en p.1, en p.2)) → Rp K C F v (en a) →
    RpK K C F (fs.map fun kv => if kv.1 = Sum.inl k then (kv.1, v) else kv) ((l.map fun p => if p.1 = k then (p.1, a) else p).map fun p => (en p.1, en p.2))
  | [], [], _, _, _, _, _ => .nil
  | (k0, v0) :: fs, (i, a0) :: l, k, v, a, h, hv => by
    rw [List.map_cons] at h
    generalize he : ((en i, en a0) : D × D) = p0 at h
    cases h with
    | cons h1 h2 =>
      have e1 : keyD k0 = .int i := (Prod.mk.inj he).1.symm
      have e2 := (Prod.mk.inj he).2
      have ek : k0 = Sum.inl i := by
        cases k0 with
        | inl x => have e1 : PyData.int x = .int i := e1; cases e1; rfl
        | inr x => have e1 : PyData.str x = .int i := e1; cases e1
      subst ek
      have ih := rk_map k h2 hv
      rw [List.map_cons, List.map_cons, List.map_cons]
      by_cases q : i = k
      · subst q
        rw [if_pos rfl, if_pos rfl]
        exact .cons (k := Sum.inl i) hv ih
      · rw [if_neg fun z => q (Sum.inl.inj z), if_neg q]
        refine RpK.cons (k := Sum.inl i) ?_ ih
        rw [e2]; exact h1
  | [], _ :: _, _, _, _, h, _ => by cases h
  | _ :: _, [], _, _, _, h, _ => by cases h
theorem rk_app : ∀ {fs gs : List (Key × V)} {ds es : List (D × D)}, RpK K C F fs ds → RpK K C F gs es → RpK K C F (fs ++ gs) (ds ++ es)
  | _, _, _, _, .nil, h => h
  | _, _, _, _, .cons a b, h => .cons a (rk_app b h)
theorem any_find : ∀ (l : List (Int × α)) (k : Int), (l.any fun p => decide (p.1 = k)) = (l.find? fun p => decide (p.1 = k)).isSome
  | [], _ => rfl
  | p :: l, k => by
    rw [List.any_cons, List.find?_cons]
    by_cases q : p.1 = k
    · simp [q]
    · rw [decide_eq_false q, Bool.false_or]; exact any_find l k
theorem rk_put {fs : List (Key × V)} {l : List (Int × α)} (k : Int) {v : V} {a : α} (h : RpK K C F fs (l.map fun p => (en p.1, en p.2))) (hv : Rp K C F v (en a)) : RpK K C F (putK fs (Sum.inl k) v) ((dcPut l k a).map fun p => (en p.1, en p.2)) := by
  have e : (fs.any fun kv => decide (kv.1 = Sum.inl k)) = (l.any fun p => decide (p.1 = k)) := by
    obtain ⟨a1, a2⟩ := rk_v k h
    rw [valV_any]
    have : (l.any fun p => decide (p.1 = k)) = (dcV l k).isSome := by
      unfold dcV
      rw [Option.isSome_map]
      exact any_find l k
    rw [this]
    cases z : dcV l k with
    | none => rw [a2 z]; rfl
    | some b => obtain ⟨v', e', _⟩ := a1 b z; rw [e']; rfl
  unfold putK dcPut
  rw [e]
  split
  · exact rk_map k h hv
  · rw [List.map_append]
    exact rk_app h (.cons (k := Sum.inl k) hv .nil)
theorem OwK.toRp : ∀ {fs : List (Key × V)} {ds : List (D × D)} {fp : List Addr}, OwK K C F H .frz fs ds fp → fp = [] ∧ RpK K C F fs ds
  | _, _, _, .nil => ⟨rfl, .nil⟩
  | _, _, _, .cons a b _ => by
    obtain ⟨e, r⟩ := a.toRp
    obtain ⟨e', r'⟩ := OwK.toRp b
    subst e e'
    exact ⟨rfl, .cons r r'⟩
theorem OwK.ofRp : ∀ {fs : List (Key × V)} {ds : List (D × D)}, RpK K C F fs ds → OwK K C F H .frz fs ds []
  | _, _, .nil => .nil
  | _, _, .cons a b => .cons (fp := []) (fq := []) (.fz a) (OwK.ofRp b) (fun _ h => nomatch h)
/-- what stands for a dict of ints -/
theorem rp_dc {v : V} {d : Dc Int α} (h : Rp K C F v (en d)) : ∃ a fs, v = .ref a ∧ Rd F a (.dK fs) ∧ RpK K C F fs (d.l.map fun p => (en p.1, en p.2)) := by
  have h : Rp K C F v (.dict (d.l.map fun p => (en p.1, en p.2))) := h
  generalize he : (d.l.map fun p => ((en p.1, en p.2) : D × D)) = kvs at h
  cases h with
  | dic h1 h2 => exact ⟨_, _, rfl, h1, h2⟩
  | obj h0 h1 h2 =>
    cases hl : d.l with
    | nil => rw [hl] at he; cases he
    | cons p l =>
      rw [hl, List.map_cons] at he
      have := (Prod.mk.inj (List.cons.inj he).1).1
      cases this
  | exn h1 =>
    cases hl : d.l with
    | nil => rw [hl] at he; cases he
    | cons p l =>
      rw [hl, List.map_cons] at he
      have := (Prod.mk.inj (List.cons.inj he).1).1
      cases this
theorem ow_dc {v : V} {d : Dc Int α} {fp : List Addr} (h : Ow K C F H (.dic .frz) v (en d) fp) : ∃ a fs, v = .ref a ∧ H a = some (.dK fs) ∧ fp = [a] ∧ RpK K C F fs (d.l.map fun p => (en p.1, en p.2)) := by
  have h : Ow K C F H (.dic .frz) v (.dict (d.l.map fun p => (en p.1, en p.2))) fp := h
  generalize he : (d.l.map fun p => ((en p.1, en p.2) : D × D)) = kvs at h
  cases h with
  | sc z _ => cases z
  | dic h1 h2 h3 =>
    obtain ⟨e, r⟩ := h2.toRp
    subst e
    exact ⟨_, _, rfl, h1, rfl, r⟩
end
section
variable {X : Cx} {W : Vp} {E : L2.St → XK} {ρ : Env} {o e b : Expr} {pos pos' : Pos} {i : Nat} {α β : Type} [En α] {r : Option V} {out : β → Out} {rest : List Stmt}
theorem te_dnew : VE X W E ρ (.dic .frz) (.Dict [] [] pos) (.ok (⟨[]⟩ : Dc Int α)) := pe_dnewK.wk fun σ H Q ⟨H0, F, k, q⟩ p hp => by
  refine okH q (.ref p) _ F [p] (same_upd hp) (Ext.refl F H) (k.sub.trans (same_upd hp)) (.dic (kvs := []) upd_same .nil (by simp)) fun a ha => ?_
  rw [List.mem_singleton.mp ha]; exact ⟨hp, none_back k.sub hp⟩
theorem te_dget {m : R (Dc Int α)} {n : R Int} (hu : X.A.units + 1 < cLine) (ho : VE X W E ρ .frz o m) (hb : VE X W E ρ .frz b n) (hs : NoSl b := by exact fun _ _ => rfl) : VE X W E ρ .frz (.Subscript o b pos) (m.bind fun d => n.bind fun k => dgetR d k) :=
  (pe_dget hu ho hb hs).wk fun σ H Q ⟨H0, F, k, q⟩ => ⟨H0, F, k, (hd_bind q).imp fun d q1 v H1 F1 fp s1 x1 f1 w1 _ => ⟨H0, F1, k.grow s1 x1 f1, ((hd_bind q1).heap s1).imp fun j q2 u H2 F2 fq s2 x2 f2 w2 _ => by
    have ej := int_rp w2.toRp.2
    subst ej
    obtain ⟨a, fs, rfl, ha, hr⟩ := rp_dc (w1.toRp.2.up x2.up)
    unfold dgetR at q2
    obtain ⟨g1, g2⟩ := rk_v j hr
    cases hj : dcV d.l j with
    | none => rw [hj] at q2; exact q2.elim
    | some y =>
      rw [hj] at q2
      obtain ⟨z, e1, e2⟩ := g1 y hj
      exact ⟨a, z, rfl, .inl ⟨fs, Sum.inl j, rd_mono f2 ha, rfl, e1.symm⟩, okH q2 z H2 F2 [] (s1.trans s2) (x1.trans s1 x2) f2 (.fz e2) fun x hx => nomatch hx⟩⟩⟩
theorem te_din {m : R Int} {n : R (Dc Int α)} (hu : X.A.units + 1 < cLine) (ha : VE X W E ρ .frz e m) (hb : VE X W E ρ .frz b n) (h1 : behindInMarks .In b = false := by rfl) : VE X W E ρ .frz (.Compare e [.In] [b] pos) (m.bind fun k => n.bind fun d => .ok (dcV d.l k).isSome) :=
  (pe_cmp (pc_din hu ha hb) h1).wk fun σ H Q ⟨H0, F, k, q⟩ => ⟨H0, F, k, (hd_bind q).imp fun j q1 v H1 F1 fp s1 x1 f1 w1 _ => ⟨H0, F1, k.grow s1 x1 f1, ((hd_bind q1).heap s1).imp fun d q2 u H2 F2 fq s2 x2 f2 w2 _ => by
    have ej := int_rp w1.toRp.2
    subst ej
    obtain ⟨a, fs, rfl, ha, hr⟩ := rp_dc w2.toRp.2
    obtain ⟨g1, g2⟩ := rk_v j hr
    have e : (valV fs (Sum.inl j)).isSome = (dcV d.l j).isSome := by
      cases hj : dcV d.l j with
      | none => rw [g2 hj]; rfl
      | some y => obtain ⟨z, e1, _⟩ := g1 y hj; rw [e1]; rfl
    exact ⟨a, _, rfl, .inl ⟨fs, Sum.inl j, rd_mono f2 ha, rfl, rfl⟩, by rw [e]; exact okH q2 _ H2 F2 [] (s1.trans s2) (x1.trans s1 x2) f2 (.fz (.bl _)) fun x hx => nomatch hx⟩⟩⟩
theorem vt_din {m : R Int} {n : R (Dc Int α)} (hu : X.A.units + 1 < cLine) (ha : VE X W E ρ .frz e m) (hb : VE X W E ρ .frz b n) (h1 : behindInMarks .In b = false := by rfl) : VT X W E ρ (.Compare e [.In] [b] pos) (m.bind fun k => n.bind fun d => .ok (dcV d.l k).isSome) :=
  (pt_cmp (pc_din hu ha hb) h1).wk fun σ H Q ⟨H0, F, k, q⟩ => ⟨H0, F, k, (hd_bind q).imp fun j q1 v H1 F1 fp s1 x1 f1 w1 _ => ⟨H0, F1, k.grow s1 x1 f1, ((hd_bind q1).heap s1).imp fun d q2 u H2 F2 fq s2 x2 f2 w2 _ => by
    have ej := int_rp w1.toRp.2
    subst ej
    obtain ⟨a, fs, rfl, ha, hr⟩ := rp_dc w2.toRp.2
    obtain ⟨g1, g2⟩ := rk_v j hr
    have e : (valV fs (Sum.inl j)).isSome = (dcV d.l j).isSome := by
      cases hj : dcV d.l j with
      | none => rw [g2 hj]; rfl
      | some y => obtain ⟨z, e1, _⟩ := g1 y hj; rw [e1]; rfl
    exact ⟨a, _, rfl, .inl ⟨fs, Sum.inl j, rd_mono f2 ha, rfl, rfl⟩, _, rfl, by rw [e]; exact okH q2 H2 (s1.trans s2)⟩⟩⟩
theorem tb_dput {d : Dc Int α} {me : R α} {mk : R Int} {m' : R (Dc Int α)} {k : Dc Int α → R β} (h : PS X (.Assign [.Subscript o b pos'] e pos) (sDPut (tVar i) (tE X.K W E X.N.length ρ .frz mk) (tE X.K W E X.N.length ρ .frz me))) (q : (me.bind fun x => mk.bind fun j => dputR d j x) = m') (hr : ∀ z, VB X W E (se ρ i (.vl (.ow (.dic .frz) r) (en z))) rest (k z) out) (hi : ρ i = .vl (.ow (.dic .frz) r) (en d) := by rfl) :
    VB X W E ρ (.Assign [.Subscript o b pos'] e pos :: rest) (m'.bind k) out := by
  subst q
  simp only [R.bind_assoc]
  refine (pss_cons h (pss_any hr)).wk fun De σ H ⟨H0, F0, F, kk, x, q⟩ => ?_
  refine ⟨H0, F, kk, ((hds_bind q).hd σ kk.same).imp fun y q1 u H1 F1 fq s1 x1 f1 w1 _ => ?_⟩
  obtain ⟨v, fp, ow⟩ := kk.own hi
  refine ⟨v, ow.at_, H0, F1, kk.grow s1 x1 f1, ((hds_bind q1).hd σ (kk.same.trans s1)).imp fun j q2 t H2 F2 _ s2 x2 f2 w2 _ => ?_⟩
  have ej := int_rp w2.toRp.2
  subst ej
  obtain ⟨a, fs, ev, ha, efp, hrk⟩ := ow_dc ow.ow
  subst ev
  have q2 := hds_bind q2
  unfold dputR at q2
  by_cases hz : d.l.length < big
  case neg => rw [if_neg hz] at q2; exact q2.elim
  rw [if_pos hz] at q2
  have s12 := s1.trans s2
  have x12 := x1.trans s1 x2
  have ll := rk_len hrk
  rw [List.length_map] at ll
  have r2 : RpK X.K W.rc F2 fs (d.l.map fun p => (en p.1, en p.2)) := RpK.mono x12.up _ _ hrk
  have rv := rk_put j r2 (w1.toRp.2.up x2.up)
  have aF : F2 a = none := by
    obtain ⟨o', e'⟩ := ow.ow.live a (by rw [efp]; exact List.mem_cons_self)
    exact x12.out e' (ow.fre a (by rw [efp]; exact List.mem_cons_self)).1
  refine ⟨a, _, rfl, DPut.k (k := Sum.inl j) (s12 _ _ ha) (Nat.lt_of_lt_of_le (by omega) big_le), ⟨dcPut d.l j y⟩, H0, F0, F2, ?_, x.trans kk.same x12, q2⟩
  refine fld_put (C := 0) (dx := 0) (fs := []) (fq := []) (y := .non) kk ow s12 x12 f2 (.dK (putK fs (Sum.inl j) u)) (by rw [efp]; exact List.mem_cons_self) (fr := [a]) (.dic upd_same (OwK.ofRp rv) (by simp)) fun b hb => .inl (by rw [efp]; exact hb)
end
end Tx
namespace Tx
theorem Rm.u1 {k : Nat} {A : PySem.Around} (r : Rm k A) : A.units + 1 < PySem.cLine := by have := r.rep; omega
end Tx

set_option Elab.async false
set_option linter.all false
set_option maxRecDepth 100000
set_option maxHeartbeats 4000000
/-! B1: plain lemmas on what is reckoned. -/
namespace Tx
open PySem En EnL

theorem mulR_r {i j : Int} (h : -18446744073709551616 < j ∧ j < 18446744073709551616) : mulR i j = .ok (i * j) := by
  unfold mulR; rw [if_pos]; left; right; exact ⟨by have := h.1; omega, by have := h.2; omega⟩
theorem mulR_l {i j : Int} (h : -18446744073709551616 < i ∧ i < 18446744073709551616) : mulR i j = .ok (i * j) := by
  unfold mulR; rw [if_pos]; left; left; exact ⟨by have := h.1; omega, by have := h.2; omega⟩
theorem mulR_w {i j : Int} (h : i.natAbs.log2 + j.natAbs.log2 < 1000000) : mulR i j = .ok (i * j) := by
  unfold mulR; rw [if_pos]; right; exact h
theorem modR_p {i j : Int} (h : 0 < j) : modR i j = .ok (i % j) := by
  unfold modR; rw [if_pos (by omega), Int.fmod_eq_emod_of_nonneg i (by omega)]
theorem divR_p {i j : Int} (h : 0 < j) (h2 : j < 1073741824) : divR i j = .ok (i / j) := by
  unfold divR; rw [if_pos (by left; omega), Int.fdiv_eq_ediv_of_nonneg i (by omega)]
theorem divR_w {i j : Int} (h : 0 < j) (h2 : j.natAbs.log2 < 9000) : divR i j = .ok (i / j) := by
  unfold divR; rw [if_pos (by right; exact ⟨h, h2⟩), Int.fdiv_eq_ediv_of_nonneg i (by omega)]
theorem pow6 : powR 10 6 = .ok 1000000 := by unfold powR; rw [if_pos (by decide)]; exact congrArg R.ok (by decide +kernel)
theorem pow9 : powR 10 9 = .ok 1000000000 := by unfold powR; rw [if_pos (by decide)]; exact congrArg R.ok (by decide +kernel)
theorem pow12 : powR 10 12 = .ok 1000000000000 := by unfold powR; rw [if_pos (by decide)]; exact congrArg R.ok (by decide +kernel)
theorem pow18 : powR 10 18 = .ok 1000000000000000000 := by unfold powR; rw [if_pos (by decide)]; exact congrArg R.ok (by decide +kernel)
theorem ixAt_nat {n k : Nat} (h : k < n) : ixAt n (k : Int) = some k := by unfold ixAt; rw [if_pos (by omega), if_pos (by omega)]; simp
theorem ixR_nat {α : Type} {xs : List α} {k : Nat} {x : α} (h : xs[k]? = some x) : ixR xs (k : Int) = .ok x := by
  unfold ixR
  rw [ixAt_nat (List.getElem?_eq_some_iff.mp h).1]
  simp only [h]
theorem ixR_lt {α : Type} {xs : List α} {i : Int} (h0 : 0 ≤ i) (h : i < xs.length) : ∃ x, xs[i.toNat]? = some x ∧ ixR xs i = .ok x := by
  obtain ⟨k, rfl⟩ := Int.eq_ofNat_of_zero_le h0
  have hk : k < xs.length := by omega
  exact ⟨xs[k], by simp [hk], ixR_nat (by simp [hk])⟩
theorem ixR_D {α : Type} {xs : List α} {i : Int} (d : α) (h0 : 0 ≤ i) (h : i < xs.length) : ixR xs i = .ok (xs.getD i.toNat d) := by
  obtain ⟨x, h1, h2⟩ := ixR_lt h0 h
  rw [h2, List.getD_eq_getElem?_getD, h1]; rfl
theorem ixR_last {α : Type} {xs : List α} {x : α} : ixR (xs ++ [x]) (-1) = .ok x := by
  unfold ixR ixAt
  rw [if_neg (by omega), if_pos (by simp; omega)]
  have : ((-1 : Int) + ((xs ++ [x]).length : Nat)).toNat = xs.length := by simp; omega
  rw [this]
  simp
theorem ixR_mem {α : Type} {xs : List α} {i : Int} {x : α} (h : ixR xs i = .ok x) : x ∈ xs := by
  unfold ixR at h
  split at h
  · split at h
    · rename_i e; cases h; exact List.mem_of_getElem? e
    · cases h
  · cases h
theorem putR_nat {α : Type} {xs : List α} {k : Nat} {x : α} (h : k < xs.length) : putR xs (k : Int) x = .ok (xs.set k x) := by
  unfold putR
  rw [ixAt_nat h]
theorem putR_lt {α : Type} {xs : List α} {i : Int} {x : α} (h0 : 0 ≤ i) (h : i < xs.length) : putR xs i x = .ok (xs.set i.toNat x) := by
  obtain ⟨k, rfl⟩ := Int.eq_ofNat_of_zero_le h0
  exact putR_nat (by omega)
theorem ixP_nat {α : Type} {xs : List α} {k : Nat} {x : α} (h : xs[k]? = some x) : ixP xs (k : Int) = .ok (x, fun z => xs.set k z) := by
  unfold ixP
  rw [ixAt_nat (List.getElem?_eq_some_iff.mp h).1]
  simp only [h]
theorem appR_ok {α : Type} {xs : List α} {a : α} (h : xs.length < 16000000) : appR xs a = .ok (xs ++ [a]) := by unfold appR big; rw [if_pos h]
theorem catR_ok {α : Type} {xs ys : List α} (h : xs.length + ys.length ≤ 16000000) : catR xs ys = .ok (xs ++ ys) := by unfold catR big; rw [if_pos h]
theorem repR_nat {α : Type} {xs : List α} {k : Nat} (h : xs.length * k ≤ 16000000) (hk : k ≤ 16000000) : repR xs (k : Int) = .ok (List.replicate k xs).flatten := by
  unfold repR big; rw [if_pos ⟨by omega, by omega, by simpa using h⟩]; simp
theorem repR_one {α : Type} {x : α} {k : Nat} (hk : k ≤ 16000000) : repR [x] (k : Int) = .ok (List.replicate k x) := by
  rw [repR_nat (by simpa using hk) hk]
  congr 1
  induction k with
  | zero => rfl
  | succ k ih => rw [List.replicate_succ, List.flatten_cons, ih (by omega), List.replicate_succ]; rfl
def rangeN (n : Nat) : List Int := (List.range n).map fun k : Nat => (k : Int)
theorem rangeI_nat (n : Nat) : rangeI 0 (n : Int) = rangeN n := by simp [rangeI, rangeN]
theorem rangeN_get {n i : Nat} : (rangeN n)[i]? = if i < n then some (i : Int) else none := by
  unfold rangeN
  rw [List.getElem?_map]
  by_cases h : i < n
  · rw [if_pos h, List.getElem?_range h]; rfl
  · rw [if_neg h, List.getElem?_eq_none (by simp; omega)]; rfl
@[simp] theorem rangeN_len (n : Nat) : (rangeN n).length = n := by simp [rangeN]
theorem rangeN_mem {n : Nat} {x : Int} : x ∈ rangeN n ↔ 0 ≤ x ∧ x < n := by
  unfold rangeN
  rw [List.mem_map]
  constructor
  · rintro ⟨k, hk, rfl⟩
    have := List.mem_range.mp hk; omega
  · rintro ⟨h1, h2⟩
    exact ⟨x.toNat, List.mem_range.mpr (by omega), by omega⟩
theorem rng1_nat {n : Nat} (h : n ≤ 16000000) : rng1 (n : Int) = .ok (rangeN n) := by
  unfold rng1 big; rw [if_pos ⟨by omega, by omega⟩, rangeI_nat]
theorem rng1_int {i : Int} (h0 : 0 ≤ i) (h : i ≤ 16000000) : rng1 i = .ok (rangeN i.toNat) := by
  obtain ⟨k, rfl⟩ := Int.eq_ofNat_of_zero_le h0
  exact rng1_nat (by omega)
theorem lrgR_nat {n : Nat} (h : n ≤ 100000) : lrgR (n : Int) = .ok (rangeN n) := by
  unfold lrgR; rw [if_pos ⟨by omega, by omega⟩, rangeI_nat]
theorem absI_eq (i : Int) : absI i = (i.natAbs : Int) := by unfold absI; split <;> omega
theorem min2_eq (i j : Int) : min2 i j = min i j := by unfold min2; split <;> omega
theorem max2_eq (i j : Int) : max2 i j = max i j := by unfold max2; split <;> omega
@[simp] theorem iteR_okb {α : Type} (c : Bool) (a b : R α) : iteR (.ok c) a b = if c = true then a else b := Eq.trans rfl rfl
theorem orR_t (b : R Bool) : orR (.ok true) b = .ok true := rfl
theorem orR_f (b : R Bool) : orR (.ok false) b = b := rfl
theorem andR_t (b : R Bool) : andR (.ok true) b = b := rfl
theorem andR_f (b : R Bool) : andR (.ok false) b = .ok false := rfl
/-! ### loops -/
section
variable {α β S : Type}
theorem forR_ok {f : α → S → R S} (I : Nat → S → Prop) : ∀ (xs : List α) (k : Nat) (s : S), I k s → (∀ i x s, xs[i]? = some x → I (k + i) s → ∃ s', f x s = .ok s' ∧ I (k + i + 1) s') → ∃ s', forR f xs s = .ok s' ∧ I (k + xs.length) s'
  | [], k, s, h, _ => ⟨s, rfl, h⟩
  | x :: xs, k, s, h, st => by
    obtain ⟨s1, e1, h1⟩ := st 0 x s rfl h
    obtain ⟨s2, e2, h2⟩ := forR_ok I xs (k + 1) s1 h1 fun i y s' hy hi => by
      have := st (i + 1) y s' (by simpa using hy) (by rw [show k + (i + 1) = k + 1 + i by omega]; exact hi)
      rw [show k + (i + 1) + 1 = k + 1 + i + 1 by omega] at this
      exact this
    refine ⟨s2, ?_, by rw [List.length_cons, show k + (xs.length + 1) = k + 1 + xs.length by omega]; exact h2⟩
    show (f x s).bind _ = _
    rw [e1]; exact e2
theorem forR_inv {f : α → S → R S} {xs : List α} {s : S} (I : Nat → S → Prop) (h0 : I 0 s) (st : ∀ i x s, xs[i]? = some x → I i s → ∃ s', f x s = .ok s' ∧ I (i + 1) s') : ∃ s', forR f xs s = .ok s' ∧ I xs.length s' := by
  obtain ⟨s', e, h⟩ := forR_ok I xs 0 s h0 fun i x s hx hi => by simpa using st i x s hx (by simpa using hi)
  exact ⟨s', e, by simpa using h⟩
/-- a loop whose turns reckon a plain function -/
theorem forR_fold {f : α → S → R S} {g : S → α → S} {xs : List α} {s : S} (I : S → Prop) (h0 : I s) (st : ∀ x ∈ xs, ∀ s, I s → f x s = .ok (g s x) ∧ I (g s x)) : forR f xs s = .ok (xs.foldl g s) ∧ I (xs.foldl g s) := by
  induction xs generalizing s with
  | nil => exact ⟨rfl, h0⟩
  | cons x xs ih =>
    obtain ⟨e, h⟩ := st x List.mem_cons_self s h0
    obtain ⟨e2, h2⟩ := ih h fun y hy => st y (List.mem_cons_of_mem _ hy)
    refine ⟨?_, h2⟩
    show (f x s).bind _ = _
    rw [e]; exact e2
theorem loopR_ok {f : α → S → R (Lc S β)} (I : Nat → S → Prop) : ∀ (xs : List α) (k : Nat) (s : S), I k s → (∀ i x s, xs[i]? = some x → I (k + i) s → ∃ s', f x s = .ok (.nx s') ∧ I (k + i + 1) s') → ∃ s', loopR f xs s = .ok (.inl s') ∧ I (k + xs.length) s'
  | [], k, s, h, _ => ⟨s, rfl, h⟩
  | x :: xs, k, s, h, st => by
    obtain ⟨s1, e1, h1⟩ := st 0 x s rfl h
    obtain ⟨s2, e2, h2⟩ := loopR_ok I xs (k + 1) s1 h1 fun i y s' hy hi => by
      have := st (i + 1) y s' (by simpa using hy) (by rw [show k + (i + 1) = k + 1 + i by omega]; exact hi)
      rw [show k + (i + 1) + 1 = k + 1 + i + 1 by omega] at this
      exact this
    refine ⟨s2, ?_, by rw [List.length_cons, show k + (xs.length + 1) = k + 1 + xs.length by omega]; exact h2⟩
    show (f x s).bind _ = _
    rw [e1]; exact e2
theorem loopR_inv {f : α → S → R (Lc S β)} {xs : List α} {s : S} (I : Nat → S → Prop) (h0 : I 0 s) (st : ∀ i x s, xs[i]? = some x → I i s → ∃ s', f x s = .ok (.nx s') ∧ I (i + 1) s') : ∃ s', loopR f xs s = .ok (.inl s') ∧ I xs.length s' := by
  obtain ⟨s', e, h⟩ := loopR_ok (β := β) I xs 0 s h0 fun i x s hx hi => by simpa using st i x s hx (by simpa using hi)
  exact ⟨s', e, by simpa using h⟩
/-- .. that carries nothing -/
theorem loopR_unit {f : α → Unit → R (Lc Unit β)} {xs : List α} (st : ∀ x ∈ xs, f x () = .ok (.nx ())) : loopR f xs () = .ok (.inl ()) := by
  induction xs with
  | nil => rfl
  | cons x xs ih =>
    show (f x ()).bind _ = _
    rw [st x List.mem_cons_self]
    exact ih fun y hy => st y (List.mem_cons_of_mem _ hy)
theorem mapR_of {f : α → R β} {g : α → β} : ∀ {xs : List α}, (∀ x ∈ xs, f x = .ok (g x)) → mapR f xs = .ok (xs.map g)
  | [], _ => rfl
  | x :: xs, h => by
    show (f x).bind _ = _
    rw [h x List.mem_cons_self]
    show (mapR f xs).bind _ = _
    rw [mapR_of fun y hy => h y (List.mem_cons_of_mem _ hy)]; rfl
theorem fmapR_of {t : α → R Bool} {p : α → Bool} {f : α → R β} {g : α → β} : ∀ {xs : List α}, (∀ x ∈ xs, t x = .ok (p x)) → (∀ x ∈ xs, p x = true → f x = .ok (g x)) → fmapR t f xs = .ok ((xs.filter p).map g)
  | [], _, _ => rfl
  | x :: xs, h, h' => by
    show (t x).bind _ = _
    rw [h x List.mem_cons_self]
    have ih := fmapR_of (xs := xs) (fun y hy => h y (List.mem_cons_of_mem _ hy)) fun y hy => h' y (List.mem_cons_of_mem _ hy)
    rw [List.filter_cons]
    cases e : p x with
    | false => exact ih
    | true =>
      show (f x).bind _ = _
      rw [h' x List.mem_cons_self e]
      show (fmapR t f xs).bind _ = _
      rw [ih]; rfl
theorem mapR_len {f : α → R β} : ∀ {xs : List α} {ys : List β}, mapR f xs = .ok ys → ys.length = xs.length
  | [], _, h => by cases h; rfl
  | x :: xs, ys, h => by
    have h : (f x).bind _ = _ := h
    obtain ⟨y, _, h⟩ := R.bind_eq_ok.mp h
    obtain ⟨zs, h1, h2⟩ := R.bind_eq_ok.mp h
    cases h2
    rw [List.length_cons, List.length_cons, mapR_len h1]
end
/-- numbers each below a limit of its own -/
def InR : List Int → List Int → Prop
  | [], [] => True
  | x :: xs, m :: ms => (0 ≤ x ∧ x < m) ∧ InR xs ms
  | _, _ => False
theorem InR.snoc : ∀ {xs ms : List Int} {x m : Int}, InR xs ms → 0 ≤ x ∧ x < m → InR (xs ++ [x]) (ms ++ [m])
  | [], [], _, _, _, h => ⟨h, trivial⟩
  | _ :: _, _ :: _, _, _, h, h' => ⟨h.1, h.2.snoc h'⟩
  | [], _ :: _, _, _, h, _ => h.elim
  | _ :: _, [], _, _, h, _ => h.elim
theorem InR.len : ∀ {xs ms : List Int}, InR xs ms → xs.length = ms.length
  | [], [], _ => rfl
  | _ :: _, _ :: _, h => congrArg (· + 1) h.2.len
  | [], _ :: _, h => h.elim
  | _ :: _, [], h => h.elim
theorem InR.get : ∀ {xs ms : List Int} {i : Nat} {m : Int}, InR xs ms → ms[i]? = some m → ∃ x, xs[i]? = some x ∧ 0 ≤ x ∧ x < m
  | [], [], _, _, _, h => by simp at h
  | x :: _, _ :: _, 0, _, h, e => by simp at e; subst e; exact ⟨x, rfl, h.1⟩
  | _ :: _, _ :: _, i + 1, _, h, e => by
    obtain ⟨x, h1, h2⟩ := h.2.get (i := i) (by simpa using e)
    exact ⟨x, by simpa using h1, h2⟩
  | [], _ :: _, _, _, h, _ => h.elim
  | _ :: _, [], _, _, h, _ => h.elim
end Tx

set_option Elab.async false
set_option linter.all false
set_option maxRecDepth 100000
set_option maxHeartbeats 4000000
/-! B2: what repr tells. -/
namespace Tx
open PySem PySem.W PyProof.Rows L2 En EnL
/-! ### repr -/
mutual
/-- how much there is to be shown; none where it is not served -/
def shW : PyData → Nat
  | .none | .bool _ | .int _ | .str _ => 1
  | .list xs | .tuple xs => shWA xs + 1
  | .dict _ => 1
def shWA : List PyData → Nat
  | [] => 0
  | x :: xs => shW x + shWA xs
end
mutual
/-- ints below 2 ^ 1900, no texts -/
def shOk : PyData → Bool
  | .none | .bool _ => true
  | .int i => decide (i.natAbs < 2 ^ 1900)
  | .str _ | .dict _ => false
  | .list xs | .tuple xs => shOkA xs
def shOkA : List PyData → Bool
  | [] => true
  | x :: xs => shOk x && shOkA xs
end
theorem int_len {i : Int} (h : i.natAbs < 2 ^ 1900) : (PyData.shown (.int i)).length ≤ 650 := by
  have e := int_text_length_le10 (a := i) (k := 610) (by decide) (Nat.lt_of_lt_of_le h (by decide +kernel))
  show (Str.ofString (toString i)).length ≤ 650
  rw [PySem.ofString_length]
  omega
mutual
theorem shown_len : ∀ d : PyData, shOk d = true → (PyData.shown d).length + 2 ≤ 700 * shW d
  | .none, _ => by simp only [PyData.shown, shW]; decide
  | .bool true, _ => by simp only [PyData.shown, shW]; decide
  | .bool false, _ => by simp only [PyData.shown, shW]; decide
  | .int i, h => by
    have := int_len (i := i) (by simpa [shOk] using h)
    simp only [shW]
    omega
  | .str _, h => by simp [shOk] at h
  | .dict _, h => by simp [shOk] at h
  | .list xs, h => by
    have e := listText_len_le (PyData.shownAll xs)
    have r := shownA_len xs (by simpa [shOk] using h)
    simp only [PyData.shown, shW]
    omega
  | .tuple xs, h => by
    have e := tupleText_len_le (PyData.shownAll xs)
    have r := shownA_len xs (by simpa [shOk] using h)
    simp only [PyData.shown, shW]
    omega
theorem shownA_len : ∀ xs : List PyData, shOkA xs = true → ((PyData.shownAll xs).map (·.length)).sum + 2 * (PyData.shownAll xs).length ≤ 700 * shWA xs
  | [], _ => by simp [PyData.shownAll, shWA]
  | x :: xs, h => by
    have h' : shOk x = true ∧ shOkA xs = true := by simpa [shOkA] using h
    have e1 := shown_len x h'.1
    have e2 := shownA_len xs h'.2
    simp only [PyData.shownAll, shWA, List.map_cons, List.sum_cons, List.length_cons]
    omega
end
mutual
theorem showable_of : ∀ d : PyData, shOk d = true → d.showable = true
  | .none, _ => by simp [PyData.showable]
  | .bool _, _ => by simp [PyData.showable]
  | .int i, h => by
    have h : i.natAbs < 2 ^ 1900 := by simpa [shOk] using h
    simp only [PyData.showable, decide_eq_true_eq]
    by_cases z : i.natAbs = 0
    · rw [z]; decide
    · have := (Nat.log2_lt z (k := 1900)).mpr h
      omega
  | .str _, h => by simp [shOk] at h
  | .dict _, h => by simp [shOk] at h
  | .list xs, h => by
    simp only [PyData.showable]
    exact showableA_of xs (by simpa [shOk] using h)
  | .tuple xs, h => by
    simp only [PyData.showable]
    exact showableA_of xs (by simpa [shOk] using h)
theorem showableA_of : ∀ xs : List PyData, shOkA xs = true → PyData.showableAll xs = true
  | [], _ => by simp [PyData.showableAll]
  | x :: xs, h => by
    have h' : shOk x = true ∧ shOkA xs = true := by simpa [shOkA] using h
    simp only [PyData.showableAll, Bool.and_eq_true]
    exact ⟨showable_of x h'.1, showableA_of xs h'.2⟩
end
mutual
theorem canLay_of : ∀ d : PyData, shOk d = true → d.canLay0 = true
  | .none, _ => by simp [PyData.canLay0]
  | .bool _, _ => by simp [PyData.canLay0]
  | .int i, h => by simp [PyData.canLay0]
  | .str _, h => by simp [shOk] at h
  | .dict _, h => by simp [shOk] at h
  | .list xs, h => by
    simp only [PyData.canLay0]
    exact canLayA_of xs (by simpa [shOk] using h)
  | .tuple xs, h => by
    simp only [PyData.canLay0]
    exact canLayA_of xs (by simpa [shOk] using h)
theorem canLayA_of : ∀ xs : List PyData, shOkA xs = true → PyData.canLayAll0 xs = true
  | [], _ => by simp [PyData.canLayAll0]
  | x :: xs, h => by
    have h' : shOk x = true ∧ shOkA xs = true := by simpa [shOkA] using h
    simp only [PyData.canLayAll0, Bool.and_eq_true]
    exact ⟨canLay_of x h'.1, canLayA_of xs h'.2⟩
end
theorem size_line : sizeLine = 16777216 := by rw [sizeLine_eq]
theorem map_shok {α : Type} {f : α → D} {l : List α} (h : ∀ x ∈ l, shOk (f x) = true) : shOkA (l.map f) = true := by
  induction l with
  | nil => simp [shOkA]
  | cons a r ih =>
    simp only [List.map_cons, shOkA, Bool.and_eq_true]
    exact ⟨h a List.mem_cons_self, ih fun x hx => h x (List.mem_cons_of_mem _ hx)⟩

theorem repr_eq {d : D} (h : shOk d = true) (hd : d.depth ≤ 64) (hw : shW d ≤ 20000) (hf : flatD d = false) : reprR d = .ok d.shown := by
  have l := shown_len d h
  have e : (d.showable && decide (d.depth ≤ 64) && decide (d.shown.length ≤ sizeLine) && okD d && !flatD d) = true := by
    have s : d.shown.length ≤ sizeLine := by rw [size_line]; omega
    simp [okD, showable_of d h, hd, s, canLay_of d h, hf]
  unfold reprR
  rw [if_pos e]
/-! ### .. by kinds -/
class Shw (α : Type) [En α] where
  dp : Nat
  ok : α → Prop
  wt : α → Nat
  hok : ∀ a, ok a → shOk (en a) = true
  hwt : ∀ a, shW (en a) ≤ wt a
  hdp : ∀ a : α, (en a).depth ≤ dp
theorem shA_ok {α : Type} [En α] [Shw α] : ∀ l : List α, (∀ a ∈ l, Shw.ok a) → shOkA (l.map en) = true := fun l h => map_shok fun x hx => Shw.hok x (h x hx)
theorem shA_wt {α : Type} [En α] [Shw α] : ∀ l : List α, shWA (l.map en) ≤ (l.map Shw.wt).sum
  | [] => Nat.le_refl _
  | a :: l => by
    have h1 := Shw.hwt a
    have h2 := shA_wt l
    simp only [List.map_cons, shWA, List.sum_cons]; omega
theorem shA_dp {α : Type} [En α] [Shw α] : ∀ l : List α, PyData.depthAll (l.map en) ≤ Shw.dp α
  | [] => Nat.zero_le _
  | a :: l => by
    have h1 := Shw.hdp a
    have h2 := shA_dp l
    simp only [List.map_cons, PyData.depthAll]; omega
instance : Shw Int where
  dp := 0
  ok := fun i => i.natAbs < 2 ^ 1900
  wt := fun _ => 1
  hok := fun i h => by show shOk (.int i) = true; simp only [shOk, decide_eq_true_eq]; exact h
  hwt := fun _ => Nat.le_refl _
  hdp := fun _ => Nat.le_refl _
instance : Shw Bool where
  dp := 0
  ok := fun i => True
  wt := fun _ => 1
  hok := fun i h => rfl
  hwt := fun _ => Nat.le_refl _
  hdp := fun _ => Nat.le_refl _
instance {α : Type} [En α] [Shw α] : Shw (List α) where
  dp := Shw.dp α + 1
  ok := fun l => ∀ a ∈ l, Shw.ok a
  wt := fun l => (l.map Shw.wt).sum + 1
  hok := fun l h => by show shOk (.list (l.map en)) = true; rw [shOk]; exact shA_ok l h
  hwt := fun l => by show shW (.list (l.map en)) ≤ _; rw [shW]; exact Nat.succ_le_succ (shA_wt l)
  hdp := fun l => by show (PyData.list (l.map en)).depth ≤ _; rw [PyData.depth]; exact Nat.succ_le_succ (shA_dp l)
instance {α : Type} [En α] [Shw α] : Shw (Tu α) where
  dp := Shw.dp α + 1
  ok := fun l => ∀ a ∈ l.l, Shw.ok a
  wt := fun l => (l.l.map Shw.wt).sum + 1
  hok := fun l h => by show shOk (.tuple (l.l.map en)) = true; rw [shOk]; exact shA_ok l.l h
  hwt := fun l => by show shW (.tuple (l.l.map en)) ≤ _; rw [shW]; exact Nat.succ_le_succ (shA_wt l.l)
  hdp := fun l => by show (PyData.tuple (l.l.map en)).depth ≤ _; rw [PyData.depth]; exact Nat.succ_le_succ (shA_dp l.l)
instance {α β : Type} [En α] [Shw α] [En β] [Shw β] : Shw (α × β) where
  dp := max (Shw.dp α) (Shw.dp β) + 1
  ok := fun x => Shw.ok x.1 ∧ Shw.ok x.2
  wt := fun x => Shw.wt x.1 + Shw.wt x.2 + 1
  hok := fun x h => by show shOk (.tuple [en x.1, en x.2]) = true; simp only [shOk, shOkA, Shw.hok x.1 h.1, Shw.hok x.2 h.2, Bool.and_true]
  hwt := fun x => by have h1 := Shw.hwt x.1; have h2 := Shw.hwt x.2; show shW (.tuple [en x.1, en x.2]) ≤ _; simp only [shW, shWA]; omega
  hdp := fun x => by have h1 := Shw.hdp x.1; have h2 := Shw.hdp x.2; show (PyData.tuple [en x.1, en x.2]).depth ≤ _; simp only [PyData.depth, PyData.depthAll]; omega
instance {α β γ : Type} [En α] [Shw α] [En β] [Shw β] [En γ] [Shw γ] : Shw (T3 α β γ) where
  dp := max (Shw.dp α) (max (Shw.dp β) (Shw.dp γ)) + 1
  ok := fun x => Shw.ok x.a ∧ Shw.ok x.b ∧ Shw.ok x.c
  wt := fun x => Shw.wt x.a + Shw.wt x.b + Shw.wt x.c + 1
  hok := fun x h => by show shOk (.tuple [en x.a, en x.b, en x.c]) = true; simp only [shOk, shOkA, Shw.hok x.a h.1, Shw.hok x.b h.2.1, Shw.hok x.c h.2.2, Bool.and_true]
  hwt := fun x => by have h1 := Shw.hwt x.a; have h2 := Shw.hwt x.b; have h3 := Shw.hwt x.c; show shW (.tuple [en x.a, en x.b, en x.c]) ≤ _; simp only [shW, shWA]; omega
  hdp := fun x => by have h1 := Shw.hdp x.a; have h2 := Shw.hdp x.b; have h3 := Shw.hdp x.c; show (PyData.tuple [en x.a, en x.b, en x.c]).depth ≤ _; simp only [PyData.depth, PyData.depthAll]; omega
instance {α β γ δ : Type} [En α] [Shw α] [En β] [Shw β] [En γ] [Shw γ] [En δ] [Shw δ] : Shw (T4 α β γ δ) where
  dp := max (Shw.dp α) (max (Shw.dp β) (max (Shw.dp γ) (Shw.dp δ))) + 1
  ok := fun x => Shw.ok x.a ∧ Shw.ok x.b ∧ Shw.ok x.c ∧ Shw.ok x.d
  wt := fun x => Shw.wt x.a + Shw.wt x.b + Shw.wt x.c + Shw.wt x.d + 1
  hok := fun x h => by show shOk (.tuple [en x.a, en x.b, en x.c, en x.d]) = true; simp only [shOk, shOkA, Shw.hok x.a h.1, Shw.hok x.b h.2.1, Shw.hok x.c h.2.2.1, Shw.hok x.d h.2.2.2, Bool.and_true]
  hwt := fun x => by have h1 := Shw.hwt x.a; have h2 := Shw.hwt x.b; have h3 := Shw.hwt x.c; have h4 := Shw.hwt x.d; show shW (.tuple [en x.a, en x.b, en x.c, en x.d]) ≤ _; simp only [shW, shWA]; omega
  hdp := fun x => by have h1 := Shw.hdp x.a; have h2 := Shw.hdp x.b; have h3 := Shw.hdp x.c; have h4 := Shw.hdp x.d; show (PyData.tuple [en x.a, en x.b, en x.c, en x.d]).depth ≤ _; simp only [PyData.depth, PyData.depthAll]; omega
theorem repr_of {α : Type} [En α] [Shw α] (a : α) (h : Shw.ok a) (hw : Shw.wt a ≤ 20000) (hd : Shw.dp α ≤ 64) (hf : flatD (en a) = false := by rfl) : reprR (en a) = .ok (en a).shown :=
  repr_eq (Shw.hok a h) (Nat.le_trans (Shw.hdp a) hd) (Nat.le_trans (Shw.hwt a) hw) hf
theorem repr_two {α β : Type} [En α] [Shw α] [En β] [Shw β] (a : α) (b : β) (h : Shw.ok a) (h' : Shw.ok b) (hw : Shw.wt a + Shw.wt b ≤ 19000) (hd : max (Shw.dp α) (Shw.dp β) ≤ 63) : reprR (en ([en a, en b] : List D)) = .ok (en ([en a, en b] : List D)).shown := by
  have w1 := Shw.hwt a
  have w2 := Shw.hwt b
  have d1 := Shw.hdp a
  have d2 := Shw.hdp b
  refine repr_eq (d := .list [en a, en b]) ?_ ?_ ?_ rfl
  · simp only [shOk, shOkA, Shw.hok a h, Shw.hok b h', Bool.and_true]
  · simp only [PyData.depth, PyData.depthAll]; omega
  · simp only [shW, shWA]; omega
theorem sum_le {α : Type} {f : α → Nat} {c : Nat} : ∀ {l : List α}, (∀ x ∈ l, f x ≤ c) → (l.map f).sum ≤ c * l.length
  | [], _ => by simp
  | a :: l, h => by
    have h1 := h a List.mem_cons_self
    have h2 := sum_le (l := l) fun x hx => h x (List.mem_cons_of_mem _ hx)
    simp only [List.map_cons, List.sum_cons, List.length_cons, Nat.mul_add, Nat.mul_one]; omega
theorem small_ok {i : Int} (h : i.natAbs < 1000000000000) : Shw.ok i := Nat.lt_of_lt_of_le h (by decide +kernel)
end Tx

set_option Elab.async false
set_option linter.all false
set_option maxRecDepth 100000
set_option maxHeartbeats 4000000
/-! printed by gen_law2.py for k04: the functions -/
namespace Lw
open PySem Tx En EnL
structure CIsland where
  nodes : (List Int)
  stations : (List (T4 Int Int Int Bool))
  lines : (List (T4 Int Int Int Int))
  loads : (List (Int × Int))
  count : Int
abbrev ns_Island : List Str := ["nodes", "stations", "lines", "loads", "count"]
abbrev vs_Island (s : CIsland) : List D := [en s.nodes, en s.stations, en s.lines, en s.loads, en s.count]
instance : En CIsland := ⟨fun s => insV "Island" ns_Island (vs_Island s)⟩
abbrev shs_Island : List Sh := [.frz, .frz, .frz, .frz, .frz]
abbrev sh_Island : Sh := .ins "Island" (zipS ns_Island shs_Island)
noncomputable def f_Island_init (net1 : (T4 Int (List (T4 Int Int Int Int)) (List (T4 Int Int Int Bool)) (List (Int × Int)))) (state2 : (T3 (Tu Int) (Tu Int) (Tu Int))) (island3 : (List Int)) : R CIsland :=
  (R.ok net1).bind fun a4 =>
  (R.ok state2).bind fun a5 =>
  (R.ok island3).bind fun nodes6 =>
  (noX (fmapR (fun v8 : Int => (((ixR a4.c v8).bind fun x9 => R.ok x9.a).bind fun x10 => R.ok (decide (x10 ∈ island3)))) (fun v8 : Int => (ixR a4.c v8)) a5.b.l)).bind fun stations7 =>
  (noX (fmapR (fun v12 : Int => (((ixR a4.b v12).bind fun x13 => R.ok x13.a).bind fun x14 => R.ok (decide (x14 ∈ island3)))) (fun v12 : Int => (ixR a4.b v12)) a5.a.l)).bind fun lines11 =>
  (noX (fmapR (fun v16 : Int => (((ixR a4.d v16).bind fun x17 => R.ok x17.1).bind fun x18 => R.ok (decide (x18 ∈ island3)))) (fun v16 : Int => (ixR a4.d v16)) a5.c.l)).bind fun loads15 =>
  (R.ok (((stations7.length : Int) + (island3.length : Int)) - (1 : Int))).bind fun count19 =>
  R.ok (CIsland.mk nodes6 stations7 lines11 loads15 count19)

noncomputable def f_Island_blank (self1 : CIsland) : R (List Int) :=
  (repR ([(0 : Int)] : List Int) (self1.count + (1 : Int)))

noncomputable def f_Island_add_potential (self1 : CIsland) (condition2 : (List Int)) (node3 : Int) (factor4 : Int) : R (List Int) :=
  (idxR self1.nodes node3).bind fun place5 =>
  iteR (R.ok (decide ((0 : Int) < place5)))
  (((ixR condition2 ((self1.stations.length : Int) + place5)).bind fun o7 => (putR condition2 ((self1.stations.length : Int) + place5) (o7 + factor4))).bind fun condition6 =>
  R.ok condition6)
  (R.ok condition2)

noncomputable def f_Island_flow (self1 : CIsland) (line2 : (T4 Int Int Int Int)) : R (List Int) :=
  (R.ok line2).bind fun a3 =>
  (f_Island_blank self1).bind fun condition4 =>
  (f_Island_add_potential self1 condition4 a3.a a3.c).bind fun condition5 =>
  (f_Island_add_potential self1 condition5 a3.b (-a3.c)).bind fun condition6 =>
  R.ok condition6

noncomputable def f_Island_excess_l1 (self4 : CIsland) (node5 : Int) (x1_ : (Int × (T4 Int Int Int Bool))) (s1 : (List Int)) : R (List Int) :=
  iteR (R.ok (decide (x1_.2.a = node5)))
  (((ixR s1 ((1 : Int) + x1_.1)).bind fun o7 => (putR s1 ((1 : Int) + x1_.1) (o7 + (1 : Int)))).bind fun condition6 =>
  R.ok condition6)
  (R.ok s1)
noncomputable def f_Island_excess_l2 (self8 : CIsland) (node9 : Int) (x2_ : (Int × Int)) (s2 : (List Int)) : R (List Int) :=
  iteR (R.ok (decide (x2_.1 = node9)))
  (((ixR s2 (0 : Int)).bind fun o11 => (putR s2 (0 : Int) (o11 - x2_.2))).bind fun condition10 =>
  R.ok condition10)
  (R.ok s2)
noncomputable def f_Island_excess_l3 (self12 : CIsland) (node13 : Int) (x3_ : (T4 Int Int Int Int)) (s3 : (List Int)) : R (List Int) :=
  (R.ok (if (decide (x3_.a = node13)) = true then (-(1 : Int)) else (1 : Int))).bind fun factor14 =>
  iteR (R.ok ((decide (node13 = x3_.a)) || (decide (node13 = x3_.b))))
  ((((f_Island_flow self12 x3_).bind fun x15 => R.ok (s3.zip x15)).bind fun x18 => (noX (mapR (fun v16 : (Int × Int) => ((mulR factor14 v16.2).bind fun x17 => R.ok (v16.1 + x17))) x18))).bind fun condition19 =>
  R.ok condition19)
  (R.ok s3)
noncomputable def f_Island_excess (self1 : CIsland) (node2 : Int) : R (List Int) :=
  (f_Island_blank self1).bind fun condition3 =>
  (R.ok (enumL 0 self1.stations)).bind fun xs1 => (forR (f_Island_excess_l1 self1 node2) xs1 condition3).bind fun s1' =>
  (R.ok self1.loads).bind fun xs2 => (forR (f_Island_excess_l2 self1 node2) xs2 (s1')).bind fun s2' =>
  (R.ok self1.lines).bind fun xs3 => (forR (f_Island_excess_l3 self1 node2) xs3 (s2')).bind fun s3' =>
  R.ok s3'

noncomputable def f_Island_conditions_l1 (self3 : CIsland) (x1_ : (Int × (T4 Int Int Int Bool))) (s1 : (List (List Int))) : R (List (List Int)) :=
  (R.ok x1_.2).bind fun a4 =>
  (f_Island_blank self3).bind fun low5 =>
  (putR low5 (0 : Int) (-a4.b)).bind fun low6 =>
  (putR low6 ((1 : Int) + x1_.1) (1 : Int)).bind fun low7 =>
  (f_Island_blank self3).bind fun high8 =>
  (putR high8 (0 : Int) a4.c).bind fun high9 =>
  (putR high9 ((1 : Int) + x1_.1) (-(1 : Int))).bind fun high10 =>
  (catR s1 ([low7, high10] : List (List Int))).bind fun found11 =>
  R.ok found11
noncomputable def f_Island_conditions_l3 (self13 : CIsland) (line14 : (T4 Int Int Int Int)) (x3_ : Int) (s3 : (List (List Int))) : R (List (List Int)) :=
  ((f_Island_flow self13 line14).bind fun x16 => (noX (mapR (fun v15 : Int => (mulR x3_ v15)) x16))).bind fun condition17 =>
  (putR condition17 (0 : Int) line14.d).bind fun condition18 =>
  (appR s3 condition18).bind fun found19 =>
  R.ok found19
noncomputable def f_Island_conditions_l2 (self12 : CIsland) (x2_ : (T4 Int Int Int Int)) (s2 : (List (List Int))) : R (List (List Int)) :=
  (R.ok (Tu.mk ([(-(1 : Int)), (1 : Int)] : List Int)).l).bind fun xs3 => (forR (f_Island_conditions_l3 self12 x2_) xs3 s2).bind fun s3' =>
  R.ok (s3')
noncomputable def f_Island_conditions_l4 (self20 : CIsland) (x4_ : Int) (s4 : (List (List Int))) : R (List (List Int)) :=
  (f_Island_excess self20 x4_).bind fun excess21 =>
  ((appR s4 excess21).bind fun l24 => (appR l24 (excess21.map (fun v23 : Int => (-v23))))).bind fun found22 =>
  R.ok found22
noncomputable def f_Island_conditions (self1 : CIsland) : R (List (List Int)) :=
  (R.ok ([] : List (List Int))).bind fun found2 =>
  (R.ok (enumL 0 self1.stations)).bind fun xs1 => (forR (f_Island_conditions_l1 self1) xs1 found2).bind fun s1' =>
  (R.ok self1.lines).bind fun xs2 => (forR (f_Island_conditions_l2 self1) xs2 (s1')).bind fun s2' =>
  (R.ok self1.nodes).bind fun xs4 => (forR (f_Island_conditions_l4 self1) xs4 (s2')).bind fun s4' =>
  R.ok s4'

noncomputable def f_conditions_of (net1 : (T4 Int (List (T4 Int Int Int Int)) (List (T4 Int Int Int Bool)) (List (Int × Int)))) (state2 : (T3 (Tu Int) (Tu Int) (Tu Int))) (island3 : (List Int)) : R (List (List Int)) :=
  ((f_Island_init net1 state2 island3).bind fun x5 => (f_Island_conditions x5))

noncomputable def f_law_cell (script1 : (List Int)) (k2 : Int) : R Int :=
  iteR (R.ok (decide (k2 < (script1.length : Int))))
  (((ixR script1 k2).bind fun x3 => R.ok x3))
  (R.ok (0 : Int))

noncomputable def f_law_draws_l1 (free8 : Bool) (x1_ : Int) (s1 : ((List Int) × Int × Int)) : R ((List Int) × Int × Int) :=
  iteR (R.ok (free8 && (decide ((1 : Int) < s1.2.1))))
  (((modR s1.2.1 x1_).bind fun x11 => (appR s1.1 x11)).bind fun found9 =>
  (divR s1.2.1 x1_).bind fun rest10 =>
  R.ok (found9, rest10, s1.2.2))
  (((((mulR s1.2.2 (48271 : Int)).bind fun x12 => R.ok (x12 + (11 : Int))).bind fun x13 => R.ok x13).bind fun x14 => (modR x14 (2147483647 : Int))).bind fun state15 =>
  ((((mulR state15 (69621 : Int)).bind fun x16 => R.ok (x16 + (7 : Int))).bind fun x17 => R.ok x17).bind fun x18 => (modR x18 (2147483647 : Int))).bind fun state19 =>
  ((((divR state19 (13 : Int)).bind fun x20 => R.ok x20).bind fun x21 => (modR x21 x1_)).bind fun x23 => (appR s1.1 x23)).bind fun found22 =>
  R.ok (found22, s1.2.1, state19))
noncomputable def f_law_draws (cell1 : Int) (limits2 : (List Int)) : R (List Int) :=
  (R.ok ([] : List Int)).bind fun found3 =>
  (R.ok (absI cell1)).bind fun rest4 =>
  (modR rest4 (2147483647 : Int)).bind fun state5 =>
  (orR (R.ok (decide (cell1 < (0 : Int)))) ((powR (10 : Int) (18 : Int)).bind fun x6 => R.ok (decide (x6 ≤ cell1)))).bind fun free7 =>
  (R.ok limits2).bind fun xs1 => (forR (f_law_draws_l1 free7) xs1 (found3, rest4, state5)).bind fun s1' =>
  R.ok s1'.1

noncomputable def f_law_net_l1 (draws15 : (List Int)) (nodes16 : Int) (wide17 : Bool) (parts18 : (List Int)) (x1_ : Int) (s1 : (List (T4 Int Int Int Int))) : R (List (T4 Int Int Int Int)) :=
  ((ixR parts18 x1_).bind fun x19 => (f_law_draws x19 ([nodes16, nodes16, (3 : Int), (12 : Int), (1000 : Int), (1001 : Int)] : List Int))).bind fun part20 =>
  iteR ((ixR part20 (0 : Int)).bind fun x21 => (ixR part20 (1 : Int)).bind fun x22 => R.ok (decide (x21 ≠ x22)))
  ((((ixR part20 (0 : Int)).bind fun x23 => (ixR part20 (1 : Int)).bind fun x24 => R.ok (min2 x23 x24)).bind fun x27 => ((ixR part20 (0 : Int)).bind fun x25 => (ixR part20 (1 : Int)).bind fun x26 => R.ok (max2 x25 x26)).bind fun x28 => R.ok (x27, x28)).bind fun pair29 =>
  (((((((ixR part20 (2 : Int)).bind fun x36 => R.ok ((1 : Int) + x36)).bind fun x37 => (ixR part20 (3 : Int)).bind fun x38 => R.ok (x37, x38)).bind fun x42 => (((ixR part20 (4 : Int)).bind fun x39 => R.ok ((1 : Int) + x39)).bind fun x40 => (ixR part20 (5 : Int)).bind fun x41 => R.ok (x40, x41)).bind fun x43 => R.ok ([x42, x43] : List (Int × Int))).bind fun x44 => (ixR x44 (if wide17 then (1 : Int) else 0))).bind fun x45 => R.ok (T4.mk (pair29.1) (pair29.2) (x45.1) (x45.2))).bind fun x47 => (appR s1 x47)).bind fun lines46 =>
  R.ok lines46)
  (R.ok s1)
noncomputable def f_law_net_l2 (draws50 : (List Int)) (nodes51 : Int) (wide52 : Bool) (lines53 : (List (T4 Int Int Int Int))) (parts54 : (List Int)) (x2_ : Int) (s2 : (List (T4 Int Int Int Bool))) : R (List (T4 Int Int Int Bool)) :=
  ((ixR parts54 ((7 : Int) + x2_)).bind fun x55 => (f_law_draws x55 ([nodes51, (6 : Int), (12 : Int), (3 : Int), (1001 : Int), (1001 : Int)] : List Int))).bind fun part56 =>
  ((((ixR part56 (1 : Int)).bind fun x69 => ((ixR part56 (1 : Int)).bind fun x67 => (ixR part56 (2 : Int)).bind fun x68 => R.ok (x67 + x68)).bind fun x70 => R.ok (x69, x70)).bind fun x77 => (((ixR part56 (4 : Int)).bind fun x71 => (ixR part56 (5 : Int)).bind fun x72 => R.ok (min2 x71 x72)).bind fun x75 => ((ixR part56 (4 : Int)).bind fun x73 => (ixR part56 (5 : Int)).bind fun x74 => R.ok (max2 x73 x74)).bind fun x76 => R.ok (x75, x76)).bind fun x78 => R.ok ([x77, x78] : List (Int × Int))).bind fun x79 => (ixR x79 (if wide52 then (1 : Int) else 0))).bind fun a80 =>
  (((ixR part56 (0 : Int)).bind fun x82 => ((ixR part56 (3 : Int)).bind fun x81 => R.ok (decide ((0 : Int) < x81))).bind fun x83 => R.ok (T4.mk (x82) (a80.1) (a80.2) (x83))).bind fun x85 => (appR s2 x85)).bind fun stations84 =>
  R.ok stations84
noncomputable def f_law_net_l3 (nodes88 : Int) (wide89 : Bool) (lines90 : (List (T4 Int Int Int Int))) (parts91 : (List Int)) (stations92 : (List (T4 Int Int Int Bool))) (x3_ : Int) (s3 : (List (Int × Int))) : R (List (Int × Int)) :=
  ((ixR parts91 ((11 : Int) + x3_)).bind fun x93 => (f_law_draws x93 ([nodes88, (9 : Int), (1000 : Int)] : List Int))).bind fun part94 =>
  (((ixR part94 (0 : Int)).bind fun x102 => ((((ixR part94 (1 : Int)).bind fun x97 => R.ok ((1 : Int) + x97)).bind fun x99 => ((ixR part94 (2 : Int)).bind fun x98 => R.ok ((1 : Int) + x98)).bind fun x100 => R.ok ([x99, x100] : List Int)).bind fun x101 => (ixR x101 (if wide89 then (1 : Int) else 0))).bind fun x103 => R.ok (x102, x103)).bind fun x105 => (appR s3 x105)).bind fun loads104 =>
  R.ok loads104
noncomputable def f_law_net (cell1 : Int) (more2 : Int) (most3 : Int) : R (T4 Int (List (T4 Int Int Int Int)) (List (T4 Int Int Int Bool)) (List (Int × Int))) :=
  (f_law_draws cell1 ([most3, (7 : Int), (4 : Int), (4 : Int), (3 : Int)] : List Int)).bind fun draws4 =>
  ((ixR draws4 (0 : Int)).bind fun x5 => R.ok ((1 : Int) + x5)).bind fun nodes6 =>
  ((ixR draws4 (4 : Int)).bind fun x7 => R.ok (decide (x7 = (0 : Int)))).bind fun wide8 =>
  (R.ok ([] : List (T4 Int Int Int Int))).bind fun lines9 =>
  ((((powR (10 : Int) (6 : Int)).bind fun x10 => R.ok ([x10] : List Int)).bind fun x11 => (repR x11 (15 : Int))).bind fun x12 => (f_law_draws more2 x12)).bind fun parts13 =>
  ((ixR draws4 (1 : Int)).bind fun x14 => (rng1 x14)).bind fun xs1 => (forR (f_law_net_l1 draws4 nodes6 wide8 parts13) xs1 lines9).bind fun s1' =>
  (R.ok ([] : List (T4 Int Int Int Bool))).bind fun stations48 =>
  ((ixR draws4 (2 : Int)).bind fun x49 => (rng1 x49)).bind fun xs2 => (forR (f_law_net_l2 draws4 nodes6 wide8 (s1') parts13) xs2 stations48).bind fun s2' =>
  (R.ok ([] : List (Int × Int))).bind fun loads86 =>
  ((ixR draws4 (3 : Int)).bind fun x87 => (rng1 x87)).bind fun xs3 => (forR (f_law_net_l3 nodes6 wide8 (s1') parts13 (s2')) xs3 loads86).bind fun s3' =>
  R.ok (T4.mk (nodes6) (s1') (s2') (s3'))

noncomputable def f_law_some (cell1 : Int) (count2 : Int) (often3 : Int) : R (Tu Int) :=
  ((repR ([(5 : Int)] : List Int) count2).bind fun x4 => (f_law_draws cell1 x4)).bind fun draws5 =>
  (((rng1 count2).bind fun x8 => (noX (fmapR (fun v6 : Int => ((ixR draws5 v6).bind fun x7 => R.ok (decide (x7 < often3)))) (fun v6 : Int => (R.ok v6)) x8))).bind fun x9 => R.ok (Tu.mk x9))

noncomputable def f_law_state (cell1 : Int) (net2 : (T4 Int (List (T4 Int Int Int Int)) (List (T4 Int Int Int Bool)) (List (Int × Int)))) : R (T3 (Tu Int) (Tu Int) (Tu Int)) :=
  (((powR (10 : Int) (6 : Int)).bind fun x3 => (powR (10 : Int) (6 : Int)).bind fun x4 => (powR (10 : Int) (6 : Int)).bind fun x5 => R.ok ([x3, x4, x5, (4 : Int)] : List Int)).bind fun x6 => (f_law_draws cell1 x6)).bind fun draws7 =>
  ((ixR draws7 (3 : Int)).bind fun x8 => (ixR ([(4 : Int), (3 : Int), (4 : Int), (2 : Int)] : List Int) x8)).bind fun often9 =>
  (((ixR draws7 (0 : Int)).bind fun x10 => (f_law_some x10 (net2.b.length : Int) often9)).bind fun x13 => ((ixR draws7 (1 : Int)).bind fun x11 => (f_law_some x11 (net2.c.length : Int) often9)).bind fun x14 => ((ixR draws7 (2 : Int)).bind fun x12 => (f_law_some x12 (net2.d.length : Int) (2 : Int))).bind fun x15 => R.ok (T3.mk (x13) (x14) (x15)))

noncomputable def f_law_islands_l3 (net11 : (T4 Int (List (T4 Int Int Int Int)) (List (T4 Int Int Int Bool)) (List (Int × Int)))) (state12 : (T3 (Tu Int) (Tu Int) (Tu Int))) (found13 : (List (List Int))) (x3_ : Int) (s3 : (List Int)) : R (List Int) :=
  ((ixR net11.b x3_).bind fun x14 => R.ok x14.a).bind fun a'15 =>
  ((ixR net11.b x3_).bind fun x16 => R.ok x16.b).bind fun b17 =>
  (iteR (R.ok ((decide (a'15 ∈ s3)) && (decide (b17 ∉ s3))))
  ((appR s3 b17).bind fun island19 =>
  R.ok island19)
  (R.ok s3)).bind fun s18 =>
  iteR (R.ok ((decide (b17 ∈ s18)) && (decide (a'15 ∉ s18))))
  ((appR s18 a'15).bind fun island20 =>
  R.ok island20)
  (R.ok s18)
noncomputable def f_law_islands_l2 (net8 : (T4 Int (List (T4 Int Int Int Int)) (List (T4 Int Int Int Bool)) (List (Int × Int)))) (state9 : (T3 (Tu Int) (Tu Int) (Tu Int))) (found10 : (List (List Int))) (x2_ : Int) (s2 : (List Int)) : R (List Int) :=
  (R.ok state9.a.l).bind fun xs3 => (forR (f_law_islands_l3 net8 state9 found10) xs3 s2).bind fun s3' =>
  R.ok (s3')
noncomputable def f_law_islands_l1 (net4 : (T4 Int (List (T4 Int Int Int Int)) (List (T4 Int Int Int Bool)) (List (Int × Int)))) (state5 : (T3 (Tu Int) (Tu Int) (Tu Int))) (x1_ : Int) (s1 : (List (List Int))) : R (List (List Int)) :=
  iteR (R.ok (!((s1.map (fun v6 : (List Int) => (decide (x1_ ∈ v6)))).any id)))
  ((R.ok ([x1_] : List Int)).bind fun island7 =>
  (rng1 net4.a).bind fun xs2 => (forR (f_law_islands_l2 net4 state5 s1) xs2 island7).bind fun s2' =>
  (appR s1 (sortI s2')).bind fun found21 =>
  R.ok found21)
  (R.ok s1)
noncomputable def f_law_islands (net1 : (T4 Int (List (T4 Int Int Int Int)) (List (T4 Int Int Int Bool)) (List (Int × Int)))) (state2 : (T3 (Tu Int) (Tu Int) (Tu Int))) : R (List (List Int)) :=
  (R.ok ([] : List (List Int))).bind fun found3 =>
  (rng1 net1.a).bind fun xs1 => (forR (f_law_islands_l1 net1 state2) xs1 found3).bind fun s1' =>
  R.ok s1'

noncomputable def f_law_stations (net1 : (T4 Int (List (T4 Int Int Int Int)) (List (T4 Int Int Int Bool)) (List (Int × Int)))) (state2 : (T3 (Tu Int) (Tu Int) (Tu Int))) (island3 : (List Int)) : R (List (T4 Int Int Int Bool)) :=
  (noX (fmapR (fun v4 : Int => (((ixR net1.c v4).bind fun x5 => R.ok x5.a).bind fun x6 => R.ok (decide (x6 ∈ island3)))) (fun v4 : Int => (ixR net1.c v4)) state2.b.l))

noncomputable def f_law_lines (net1 : (T4 Int (List (T4 Int Int Int Int)) (List (T4 Int Int Int Bool)) (List (Int × Int)))) (state2 : (T3 (Tu Int) (Tu Int) (Tu Int))) (island3 : (List Int)) : R (List (T4 Int Int Int Int)) :=
  (noX (fmapR (fun v4 : Int => (((ixR net1.b v4).bind fun x5 => R.ok x5.a).bind fun x6 => R.ok (decide (x6 ∈ island3)))) (fun v4 : Int => (ixR net1.b v4)) state2.a.l))

noncomputable def f_law_fed (net1 : (T4 Int (List (T4 Int Int Int Int)) (List (T4 Int Int Int Bool)) (List (Int × Int)))) (state2 : (T3 (Tu Int) (Tu Int) (Tu Int))) (node3 : Int) : R Int :=
  ((noX (fmapR (fun v4 : Int => (((ixR net1.d v4).bind fun x5 => R.ok x5.1).bind fun x6 => R.ok (decide (x6 = node3)))) (fun v4 : Int => ((ixR net1.d v4).bind fun x7 => R.ok x7.2)) state2.c.l)).bind fun x8 => R.ok x8.sum)

noncomputable def f_law_conditions_l1 (net9 : (T4 Int (List (T4 Int Int Int Int)) (List (T4 Int Int Int Bool)) (List (Int × Int)))) (state10 : (T3 (Tu Int) (Tu Int) (Tu Int))) (island11 : (List Int)) (stations12 : (List (T4 Int Int Int Bool))) (lines13 : (List (T4 Int Int Int Int))) (count14 : Int) (zero15 : (List Int)) (x1_ : Int) (s1 : (Dc Int Int)) : R (Dc Int Int) :=
  ((ixR island11 x1_).bind fun x17 => (dputR s1 x17 ((stations12.length : Int) + x1_))).bind fun places16 =>
  R.ok places16
noncomputable def f_law_conditions_l2 (net19 : (T4 Int (List (T4 Int Int Int Int)) (List (T4 Int Int Int Bool)) (List (Int × Int)))) (state20 : (T3 (Tu Int) (Tu Int) (Tu Int))) (island21 : (List Int)) (stations22 : (List (T4 Int Int Int Bool))) (lines23 : (List (T4 Int Int Int Int))) (count24 : Int) (zero25 : (List Int)) (places26 : (Dc Int Int)) (x2_ : Int) (s2 : (List (List Int))) : R (List (List Int)) :=
  (R.ok zero25).bind fun low27 =>
  (R.ok zero25).bind fun high28 =>
  ((((ixR stations22 x2_).bind fun x29 => R.ok x29.b).bind fun x30 => R.ok (-x30)).bind fun x38 => (putR low27 (0 : Int) x38)).bind fun low31 =>
  (putR low31 ((1 : Int) + x2_) (1 : Int)).bind fun low32 =>
  (((ixR stations22 x2_).bind fun x33 => R.ok x33.c).bind fun x37 => (putR high28 (0 : Int) x37)).bind fun high34 =>
  (putR high34 ((1 : Int) + x2_) (-(1 : Int))).bind fun high35 =>
  (catR s2 ([low32, high35] : List (List Int))).bind fun rows36 =>
  R.ok rows36
noncomputable def f_law_conditions_l3 (net40 : (T4 Int (List (T4 Int Int Int Int)) (List (T4 Int Int Int Bool)) (List (Int × Int)))) (state41 : (T3 (Tu Int) (Tu Int) (Tu Int))) (island42 : (List Int)) (stations43 : (List (T4 Int Int Int Bool))) (lines44 : (List (T4 Int Int Int Int))) (count45 : Int) (zero46 : (List Int)) (places47 : (Dc Int Int)) (x3_ : (T4 Int Int Int Int)) (s3 : ((List (List Int)) × (List (List Int)))) : R ((List (List Int)) × (List (List Int))) :=
  (R.ok zero46).bind fun flow48 =>
  (iteR (R.ok (dcV places47.l x3_.a).isSome)
  (((dgetR places47 x3_.a).bind fun x51 => (putR flow48 x51 x3_.c)).bind fun flow50 =>
  R.ok flow50)
  (R.ok flow48)).bind fun s49 =>
  (iteR (R.ok (dcV places47.l x3_.b).isSome)
  (((dgetR places47 x3_.b).bind fun x54 => (putR s49 x54 (-x3_.c))).bind fun flow53 =>
  R.ok flow53)
  (R.ok s49)).bind fun s52 =>
  (appR s3.2 s52).bind fun flows55 =>
  ((((((ixR s52 (0 : Int)).bind fun x56 => R.ok (x3_.d - x56)).bind fun x57 => R.ok ([x57] : List Int)).bind fun x59 => (catR x59 ((cutL s52 (some (1 : Int)) none).map (fun v58 : Int => (-v58))))).bind fun x63 => ((((ixR s52 (0 : Int)).bind fun x60 => R.ok (x3_.d + x60)).bind fun x61 => R.ok ([x61] : List Int)).bind fun x62 => (catR x62 (cutL s52 (some (1 : Int)) none))).bind fun x64 => R.ok ([x63, x64] : List (List Int))).bind fun x65 => (catR s3.1 x65)).bind fun rows66 =>
  R.ok (rows66, flows55)
noncomputable def f_law_conditions_l5 (net77 : (T4 Int (List (T4 Int Int Int Int)) (List (T4 Int Int Int Bool)) (List (Int × Int)))) (state78 : (T3 (Tu Int) (Tu Int) (Tu Int))) (stations79 : (List (T4 Int Int Int Bool))) (lines80 : (List (T4 Int Int Int Int))) (count81 : Int) (zero82 : (List Int)) (rows83 : (List (List Int))) (flows84 : (List (List Int))) (node85 : Int) (x5_ : Int) (s5 : (List Int)) : R (List Int) :=
  iteR (((ixR stations79 x5_).bind fun x86 => R.ok x86.a).bind fun x87 => R.ok (decide (x87 = node85)))
  ((((ixR s5 ((1 : Int) + x5_)).bind fun x88 => R.ok (x88 + (1 : Int))).bind fun x90 => (putR s5 ((1 : Int) + x5_) x90)).bind fun row89 =>
  R.ok row89)
  (R.ok s5)
noncomputable def f_law_conditions_l6 (net91 : (T4 Int (List (T4 Int Int Int Int)) (List (T4 Int Int Int Bool)) (List (Int × Int)))) (state92 : (T3 (Tu Int) (Tu Int) (Tu Int))) (stations93 : (List (T4 Int Int Int Bool))) (lines94 : (List (T4 Int Int Int Int))) (count95 : Int) (zero96 : (List Int)) (rows97 : (List (List Int))) (flows98 : (List (List Int))) (node99 : Int) (x6_ : Int) (s6 : (List Int)) : R (List Int) :=
  (((((ixR lines94 x6_).bind fun x100 => R.ok x100.b).bind fun x101 => R.ok (decide (x101 = node99))).bind fun x102 => R.ok (if x102 then (1 : Int) else 0)).bind fun x106 => ((((ixR lines94 x6_).bind fun x103 => R.ok x103.a).bind fun x104 => R.ok (decide (x104 = node99))).bind fun x105 => R.ok (if x105 then (1 : Int) else 0)).bind fun x107 => R.ok (x106 - x107)).bind fun sign108 =>
  ((rng1 ((1 : Int) + count95)).bind fun x120 => (noX (mapR (fun v115 : Int => ((ixR s6 v115).bind fun x118 => (((ixR flows98 x6_).bind fun x116 => (ixR x116 v115)).bind fun x117 => (mulR sign108 x117)).bind fun x119 => R.ok (x118 + x119))) x120))).bind fun row121 =>
  R.ok row121
noncomputable def f_law_conditions_l4 (net67 : (T4 Int (List (T4 Int Int Int Int)) (List (T4 Int Int Int Bool)) (List (Int × Int)))) (state68 : (T3 (Tu Int) (Tu Int) (Tu Int))) (stations69 : (List (T4 Int Int Int Bool))) (lines70 : (List (T4 Int Int Int Int))) (count71 : Int) (zero72 : (List Int)) (flows73 : (List (List Int))) (x4_ : Int) (s4 : (List (List Int))) : R (List (List Int)) :=
  (R.ok zero72).bind fun row74 =>
  (((f_law_fed net67 state68 x4_).bind fun x75 => R.ok (-x75)).bind fun x126 => (putR row74 (0 : Int) x126)).bind fun row76 =>
  (rng1 (stations69.length : Int)).bind fun xs5 => (forR (f_law_conditions_l5 net67 state68 stations69 lines70 count71 zero72 s4 flows73 x4_) xs5 row76).bind fun s5' =>
  (rng1 (lines70.length : Int)).bind fun xs6 => (forR (f_law_conditions_l6 net67 state68 stations69 lines70 count71 zero72 s4 flows73 x4_) xs6 (s5')).bind fun s6' =>
  (catR s4 ([s6', (s6'.map (fun v124 : Int => (-v124)))] : List (List Int))).bind fun rows125 =>
  R.ok rows125
noncomputable def f_law_conditions (net1 : (T4 Int (List (T4 Int Int Int Int)) (List (T4 Int Int Int Bool)) (List (Int × Int)))) (state2 : (T3 (Tu Int) (Tu Int) (Tu Int))) (island3 : (List Int)) : R (List (List Int)) :=
  (f_law_stations net1 state2 island3).bind fun stations4 =>
  (f_law_lines net1 state2 island3).bind fun lines5 =>
  (R.ok (((stations4.length : Int) + (island3.length : Int)) - (1 : Int))).bind fun count6 =>
  (repR ([(0 : Int)] : List Int) ((1 : Int) + count6)).bind fun zero7 =>
  (R.ok (Dc.mk [] : (Dc Int Int))).bind fun places8 =>
  (rng2 (1 : Int) (island3.length : Int)).bind fun xs1 => (forR (f_law_conditions_l1 net1 state2 island3 stations4 lines5 count6 zero7) xs1 places8).bind fun s1' =>
  (R.ok ([] : List (List Int))).bind fun rows18 =>
  (rng1 (stations4.length : Int)).bind fun xs2 => (forR (f_law_conditions_l2 net1 state2 island3 stations4 lines5 count6 zero7 (s1')) xs2 rows18).bind fun s2' =>
  (R.ok ([] : List (List Int))).bind fun flows39 =>
  (R.ok lines5).bind fun xs3 => (forR (f_law_conditions_l3 net1 state2 island3 stations4 lines5 count6 zero7 (s1')) xs3 (s2', flows39)).bind fun s3' =>
  (R.ok island3).bind fun xs4 => (forR (f_law_conditions_l4 net1 state2 stations4 lines5 count6 zero7 (s3'.2)) xs4 (s3'.1)).bind fun s4' =>
  R.ok s4'

noncomputable def f_law_l3 (net17 : (T4 Int (List (T4 Int Int Int Int)) (List (T4 Int Int Int Bool)) (List (Int × Int)))) (state18 : (T3 (Tu Int) (Tu Int) (Tu Int))) (before19 : Str) (island20 : (List Int)) (due'21 : (List (List Int))) (again22 : (List (List Int))) (x3_ : Int) (s3 : (List (List Int))) : R (List (List Int)) :=
  ((ixP s3 x3_).bind fun q24 => ((appR q24.1 (-x3_)).bind fun c25 => R.ok (q24.2 c25))).bind fun actual23 =>
  R.ok actual23
noncomputable def f_law_l2 (net8 : (T4 Int (List (T4 Int Int Int Int)) (List (T4 Int Int Int Bool)) (List (Int × Int)))) (state9 : (T3 (Tu Int) (Tu Int) (Tu Int))) (before10 : Str) (x2_ : (List Int)) (s2 : Unit) : R (Lc Unit (Lc Unit Bool)) :=
  (f_law_conditions net8 state9 x2_).bind fun due'11 =>
  (R.ok x2_).bind fun kept12 =>
  (f_conditions_of net8 state9 x2_).bind fun actual13 =>
  iteR (orR (R.ok (!true)) (orR (R.ok (decide (actual13 ≠ due'11))) (orR ((reprR (en actual13)).bind fun x14 => (reprR (en due'11)).bind fun x15 => R.ok (decide (x14 ≠ x15))) (R.ok (decide (x2_ ≠ kept12))))))
  (R.ok (Lc.rt (Lc.rt false)))
  ((f_conditions_of net8 state9 x2_).bind fun again16 =>
  (rng1 (actual13.length : Int)).bind fun xs3 => (forR (f_law_l3 net8 state9 before10 x2_ (due'11) again16) xs3 actual13).bind fun s3' =>
  iteR (R.ok (decide (again16 ≠ due'11)))
  (R.ok (Lc.rt (Lc.rt false)))
  (iteR (orR (((rng1 (due'11.length : Int)).bind fun x28 => (noX (mapR (fun v26 : Int => ((ixR due'11 v26).bind fun x27 => (catR x27 ([(-v26)] : List Int)))) x28))).bind fun x29 => R.ok (decide (s3' ≠ x29))) (orR ((f_conditions_of net8 state9 x2_).bind fun x30 => R.ok (decide (x30 ≠ due'11))) ((reprR (en ([(en net8), (en state9)] : List D))).bind fun x31 => R.ok (decide (x31 ≠ before10)))))
  (R.ok (Lc.rt (Lc.rt false)))
  (R.ok (Lc.nx ()))))
noncomputable def f_law_l1 (net5 : (T4 Int (List (T4 Int Int Int Int)) (List (T4 Int Int Int Bool)) (List (Int × Int)))) (x1_ : Int) (s1 : Unit) : R (Lc Unit Bool) :=
  (f_law_state x1_ net5).bind fun state6 =>
  (reprR (en ([(en net5), (en state6)] : List D))).bind fun before7 =>
  (f_law_islands net5 state6).bind fun xs2 => thenR (loopR (f_law_l2 net5 state6 before7) xs2 ()) fun s2' =>
  R.ok (Lc.nx ())
noncomputable def f_law (script1 : (List Int)) : R Bool :=
  ((f_law_cell script1 (0 : Int)).bind fun x2 => (f_law_cell script1 (1 : Int)).bind fun x3 => (f_law_net x2 x3 (6 : Int))).bind fun net4 =>
  (catR ([(0 : Int), (1 : Int)] : List Int) (cutL script1 (some (2 : Int)) (some (12 : Int)))).bind fun xs1 => thenR (loopR (f_law_l1 net4) xs1 ()) fun s1' =>
  R.ok true

end Lw

set_option Elab.async false
set_option linter.all false
set_option maxRecDepth 100000
set_option maxHeartbeats 4000000
/-! printed by gen_law2.py for k04: that the defs hand them back -/
namespace Lw
open PySem L2 PyProof.Rows Tx En EnL
def topS (i : Nat) : Stmt := PySem.Challenge.pw_relume_k04_conditions_of_islands.main.body.getD i (.Pass ⟨0, 0, 0, 0⟩)
structure Bs (K : PySem.W.Frag) (mg : Str → Option Value) (W : Vp) : Prop where
  nob : ∀ x ∈ (["abs", "any", "enumerate", "int", "isinstance", "len", "list", "max", "min", "range", "repr", "sorted", "sum", "tuple", "zip"] : List Str), mg x = none
  cl_Island : ClsI K W "Island" ns_Island
theorem Bs.bi {K : PySem.W.Frag} {mg : Str → Option Value} {W : Vp} (B : Bs K mg W) (x : Str) (h : x ∈ (["abs", "any", "enumerate", "int", "isinstance", "len", "list", "max", "min", "range", "repr", "sorted", "sum", "tuple", "zip"] : List Str)) : mg x = none := B.nob x h
section
variable {P : Program} {w : World} {K : PySem.W.Frag} {mg : Str → Option Value} {base : Heap} {W : Vp}
abbrev s_Island_init : Stmt := inClass (topS 1) 0
theorem sc_Island_init : FnScope ["self", "net", "state", "island", "_", "lines", "stations", "loads", "closed", "running", "fed", "index"] ["self", "net", "state", "island"] (defScope s_Island_init) := ⟨rfl, rfl, rfl, by decide +kernel, rfl, by decide +kernel, by decide +kernel⟩
theorem ok_Island_init (B : Bs K mg W) (hW : W.rc.xa = none) (d : Ini K mg W "Island" "Island.__init__" s_Island_init ["self", "net", "state", "island"])  : CalK P w K mg base W "Island" 1 (fun b : ((T4 Int (List (T4 Int Int Int Int)) (List (T4 Int Int Int Bool)) (List (Int × Int))) × (T3 (Tu Int) (Tu Int) (Tu Int)) × (List Int) × Unit) => f_Island_init b.1 b.2.1 b.2.2.1) (zipS ns_Island shs_Island) :=
  calK d sc_Island_init fun fa cdv Ar outer sh H E hr u b => by
    have nd := sc_Island_init.nd
    obtain ⟨net1, state2, island3, _⟩ := b
    exact (show VB (cxOf (L2.CX P w) P w K mg base ["self", "net", "state", "island", "_", "lines", "stations", "loads", "closed", "running", "fed", "index"] "Island.__init__" (defScope s_Island_init) fa cdv Ar outer sh H E) W (fun _ => E) (argI [] (.vl (.ow (.ins "Island" (zipS [] [])) (some u)) (insV "Island" [] [])) [en net1, en state2, en island3]) (defBody s_Island_init) (f_Island_init net1 state2 island3) (fun s' : CIsland => .nx (se e0 0 (.vl (.ow sh_Island (some u)) (en s')))) from
  (tb_asg (P := fun _ => true) (g := (gT 4 (gsC (gN 4) (gsC (gN 5) (gsC (gN 6) (gsC (gN 7) gsN)))))) (fun a4 => rfl) (ps_asg (ve_eq (m' := (R.ok net1)) (ve_v (pv 1) rfl) (by rfl)) (vg_tup rfl (vgs_cons (vg_name (pg_name (i := 4) nd rfl (by first | exact Or.inl rfl | exact Or.inr rfl))) (vgs_cons (vg_name (pg_name (i := 5) nd rfl (by first | exact Or.inl rfl | exact Or.inr rfl))) (vgs_cons (vg_name (pg_name (i := 6) nd rfl (by first | exact Or.inl rfl | exact Or.inr rfl))) (vgs_cons (vg_name (pg_name (i := 7) nd rfl (by first | exact Or.inl rfl | exact Or.inr rfl))) vgs_nil)))))) fun a4 =>
  (tb_asg (P := fun _ => true) (g := (gT 3 (gsC (gN 8) (gsC (gN 9) (gsC (gN 10) gsN))))) (fun a5 => rfl) (ps_asg (ve_eq (m' := (R.ok state2)) (ve_v (pv 2) rfl) (by rfl)) (vg_tup rfl (vgs_cons (vg_name (pg_name (i := 8) nd rfl (by first | exact Or.inl rfl | exact Or.inr rfl))) (vgs_cons (vg_name (pg_name (i := 9) nd rfl (by first | exact Or.inl rfl | exact Or.inr rfl))) (vgs_cons (vg_name (pg_name (i := 10) nd rfl (by first | exact Or.inl rfl | exact Or.inr rfl))) vgs_nil))))) fun a5 =>
  (vb_fldN (s2 := .frz) B.cl_Island (by decide +kernel) (by decide +kernel) (pv 0) rfl (ve_eq (m' := (R.ok island3)) (ve_v (pv 3) rfl) (by rfl)) fun nodes6 =>
  (vb_fldN (s2 := .frz) B.cl_Island (by decide +kernel) (by decide +kernel) (pv 0) rfl (ve_eq (m' := (noX (fmapR (fun v8 : Int => (((ixR a4.c v8).bind fun x9 => R.ok x9.a).bind fun x10 => R.ok (decide (x10 ∈ island3)))) (fun v8 : Int => (ixR a4.c v8)) a5.b.l))) (ve_frz (te_lc (own := [("index", 11)]) (g := (gN 11)) lcF rfl nd (vi_tup (ve_v (pv 9) rfl)) (blkOk_by (N := ["self", "net", "state", "island", "_", "lines", "stations", "loads", "closed", "running", "fed", "index"]) (sc := defScope s_Island_init) (by decide +kernel)) (fun _ _ _ _ _ => (vg_name (pg_name (i := 11) nd rfl (by first | exact Or.inl rfl | exact Or.inr rfl)))) (fun _ => rfl) (fun (v8 : Int) _ _ _ _ _ => (vts_one (vt_eq (t' := (((ixR a4.c v8).bind fun x9 => R.ok x9.a).bind fun x10 => R.ok (decide (x10 ∈ island3)))) (vt_cmp (op_inD hr.u65) o2_inL cIn (hIn) (te_prj (fun x : (T4 Int Int Int Bool) => x.a) (te_ixL (ve_v (pv 6) rfl) (ve_v (pv 11) rfl)) ve_int) (ve_v (pv 3) rfl) (by rfl)) (by first | with_reducible rfl | simp only [R.bind_eta, R.bind_assoc, R.okb, R.exb, R.nob, R.map_eq, q_gInt, q_gIntB, q_gLen, q_gLenT, q_gLenN, q_gAbs, q_gMax2, q_gMin2, q_gGcd, q_gSum, q_gAny, q_gAll, q_gList, q_gListT, q_gTuple, q_gSorted, q_gRepr, q_cLt, q_cLe, q_cGt, q_cGe, q_cEq, q_cNe, q_cEqS, q_cNeS, q_cEqR, q_cNeR, q_cIsN, q_cIsS, q_cIn, q_cNi, q_cInT, q_cNiT] | rfl)))) (fun (v8 : Int) _ _ _ _ _ => (ve_eq (m' := (ixR a4.c v8)) (te_ixL (ve_v (pv 6) rfl) (ve_v (pv 11) rfl)) (by first | with_reducible rfl | simp only [R.bind_eta, R.bind_assoc, R.okb, R.exb, R.nob, R.map_eq, q_gInt, q_gIntB, q_gLen, q_gLenT, q_gLenN, q_gAbs, q_gMax2, q_gMin2, q_gGcd, q_gSum, q_gAny, q_gAll, q_gList, q_gListT, q_gTuple, q_gSorted, q_gRepr, q_cLt, q_cLe, q_cGt, q_cGe, q_cEq, q_cNe, q_cEqS, q_cNeS, q_cEqR, q_cNeR, q_cIsN, q_cIsS, q_cIn, q_cNi, q_cInT, q_cNiT] | rfl))))) (by first | with_reducible rfl | simp only [R.bind_eta, R.bind_assoc, R.okb, R.exb, R.nob, R.map_eq, q_gInt, q_gIntB, q_gLen, q_gLenT, q_gLenN, q_gAbs, q_gMax2, q_gMin2, q_gGcd, q_gSum, q_gAny, q_gAll, q_gList, q_gListT, q_gTuple, q_gSorted, q_gRepr, q_cLt, q_cLe, q_cGt, q_cGe, q_cEq, q_cNe, q_cEqS, q_cNeS, q_cEqR, q_cNeR, q_cIsN, q_cIsS, q_cIn, q_cNi, q_cInT, q_cNiT] | rfl)) fun stations7 =>
  (vb_fldN (s2 := .frz) B.cl_Island (by decide +kernel) (by decide +kernel) (pv 0) rfl (ve_eq (m' := (noX (fmapR (fun v12 : Int => (((ixR a4.b v12).bind fun x13 => R.ok x13.a).bind fun x14 => R.ok (decide (x14 ∈ island3)))) (fun v12 : Int => (ixR a4.b v12)) a5.a.l))) (ve_frz (te_lc (own := [("index", 11)]) (g := (gN 11)) lcF rfl nd (vi_tup (ve_v (pv 8) rfl)) (blkOk_by (N := ["self", "net", "state", "island", "_", "lines", "stations", "loads", "closed", "running", "fed", "index"]) (sc := defScope s_Island_init) (by decide +kernel)) (fun _ _ _ _ _ => (vg_name (pg_name (i := 11) nd rfl (by first | exact Or.inl rfl | exact Or.inr rfl)))) (fun _ => rfl) (fun (v12 : Int) _ _ _ _ _ => (vts_one (vt_eq (t' := (((ixR a4.b v12).bind fun x13 => R.ok x13.a).bind fun x14 => R.ok (decide (x14 ∈ island3)))) (vt_cmp (op_inD hr.u65) o2_inL cIn (hIn) (te_prj (fun x : (T4 Int Int Int Int) => x.a) (te_ixL (ve_v (pv 5) rfl) (ve_v (pv 11) rfl)) ve_int) (ve_v (pv 3) rfl) (by rfl)) (by first | with_reducible rfl | simp only [R.bind_eta, R.bind_assoc, R.okb, R.exb, R.nob, R.map_eq, q_gInt, q_gIntB, q_gLen, q_gLenT, q_gLenN, q_gAbs, q_gMax2, q_gMin2, q_gGcd, q_gSum, q_gAny, q_gAll, q_gList, q_gListT, q_gTuple, q_gSorted, q_gRepr, q_cLt, q_cLe, q_cGt, q_cGe, q_cEq, q_cNe, q_cEqS, q_cNeS, q_cEqR, q_cNeR, q_cIsN, q_cIsS, q_cIn, q_cNi, q_cInT, q_cNiT] | rfl)))) (fun (v12 : Int) _ _ _ _ _ => (ve_eq (m' := (ixR a4.b v12)) (te_ixL (ve_v (pv 5) rfl) (ve_v (pv 11) rfl)) (by first | with_reducible rfl | simp only [R.bind_eta, R.bind_assoc, R.okb, R.exb, R.nob, R.map_eq, q_gInt, q_gIntB, q_gLen, q_gLenT, q_gLenN, q_gAbs, q_gMax2, q_gMin2, q_gGcd, q_gSum, q_gAny, q_gAll, q_gList, q_gListT, q_gTuple, q_gSorted, q_gRepr, q_cLt, q_cLe, q_cGt, q_cGe, q_cEq, q_cNe, q_cEqS, q_cNeS, q_cEqR, q_cNeR, q_cIsN, q_cIsS, q_cIn, q_cNi, q_cInT, q_cNiT] | rfl))))) (by first | with_reducible rfl | simp only [R.bind_eta, R.bind_assoc, R.okb, R.exb, R.nob, R.map_eq, q_gInt, q_gIntB, q_gLen, q_gLenT, q_gLenN, q_gAbs, q_gMax2, q_gMin2, q_gGcd, q_gSum, q_gAny, q_gAll, q_gList, q_gListT, q_gTuple, q_gSorted, q_gRepr, q_cLt, q_cLe, q_cGt, q_cGe, q_cEq, q_cNe, q_cEqS, q_cNeS, q_cEqR, q_cNeR, q_cIsN, q_cIsS, q_cIn, q_cNi, q_cInT, q_cNiT] | rfl)) fun lines11 =>
  (vb_fldN (s2 := .frz) B.cl_Island (by decide +kernel) (by decide +kernel) (pv 0) rfl (ve_eq (m' := (noX (fmapR (fun v16 : Int => (((ixR a4.d v16).bind fun x17 => R.ok x17.1).bind fun x18 => R.ok (decide (x18 ∈ island3)))) (fun v16 : Int => (ixR a4.d v16)) a5.c.l))) (ve_frz (te_lc (own := [("index", 11)]) (g := (gN 11)) lcF rfl nd (vi_tup (ve_v (pv 10) rfl)) (blkOk_by (N := ["self", "net", "state", "island", "_", "lines", "stations", "loads", "closed", "running", "fed", "index"]) (sc := defScope s_Island_init) (by decide +kernel)) (fun _ _ _ _ _ => (vg_name (pg_name (i := 11) nd rfl (by first | exact Or.inl rfl | exact Or.inr rfl)))) (fun _ => rfl) (fun (v16 : Int) _ _ _ _ _ => (vts_one (vt_eq (t' := (((ixR a4.d v16).bind fun x17 => R.ok x17.1).bind fun x18 => R.ok (decide (x18 ∈ island3)))) (vt_cmp (op_inD hr.u65) o2_inL cIn (hIn) (te_prj (fun x : (Int × Int) => x.1) (te_ixL (ve_v (pv 7) rfl) (ve_v (pv 11) rfl)) ve_int) (ve_v (pv 3) rfl) (by rfl)) (by first | with_reducible rfl | simp only [R.bind_eta, R.bind_assoc, R.okb, R.exb, R.nob, R.map_eq, q_gInt, q_gIntB, q_gLen, q_gLenT, q_gLenN, q_gAbs, q_gMax2, q_gMin2, q_gGcd, q_gSum, q_gAny, q_gAll, q_gList, q_gListT, q_gTuple, q_gSorted, q_gRepr, q_cLt, q_cLe, q_cGt, q_cGe, q_cEq, q_cNe, q_cEqS, q_cNeS, q_cEqR, q_cNeR, q_cIsN, q_cIsS, q_cIn, q_cNi, q_cInT, q_cNiT] | rfl)))) (fun (v16 : Int) _ _ _ _ _ => (ve_eq (m' := (ixR a4.d v16)) (te_ixL (ve_v (pv 7) rfl) (ve_v (pv 11) rfl)) (by first | with_reducible rfl | simp only [R.bind_eta, R.bind_assoc, R.okb, R.exb, R.nob, R.map_eq, q_gInt, q_gIntB, q_gLen, q_gLenT, q_gLenN, q_gAbs, q_gMax2, q_gMin2, q_gGcd, q_gSum, q_gAny, q_gAll, q_gList, q_gListT, q_gTuple, q_gSorted, q_gRepr, q_cLt, q_cLe, q_cGt, q_cGe, q_cEq, q_cNe, q_cEqS, q_cNeS, q_cEqR, q_cNeR, q_cIsN, q_cIsS, q_cIn, q_cNi, q_cInT, q_cNiT] | rfl))))) (by first | with_reducible rfl | simp only [R.bind_eta, R.bind_assoc, R.okb, R.exb, R.nob, R.map_eq, q_gInt, q_gIntB, q_gLen, q_gLenT, q_gLenN, q_gAbs, q_gMax2, q_gMin2, q_gGcd, q_gSum, q_gAny, q_gAll, q_gList, q_gListT, q_gTuple, q_gSorted, q_gRepr, q_cLt, q_cLe, q_cGt, q_cGe, q_cEq, q_cNe, q_cEqS, q_cNeS, q_cEqR, q_cNeR, q_cIsN, q_cIsS, q_cIn, q_cNi, q_cInT, q_cNiT] | rfl)) fun loads15 =>
  (vb_fldN (s2 := .frz) B.cl_Island (by decide +kernel) (by decide +kernel) (pv 0) rfl (ve_eq (m' := (R.ok (((stations7.length : Int) + (island3.length : Int)) - (1 : Int)))) (te_sub (te_add (ve_ca ca_len gLen hLen (pe_callB call_len_seq (by rfl) (B.bi "len" (by decide)) (by decide +kernel) (va_cons (ve_r (b0 := false) (vr_fldD (s := .frz) (x := (stations7 : (List (T4 Int Int Int Bool)))) (j := 1) B.cl_Island (by decide +kernel) (by decide +kernel) (pv 0) rfl rfl rfl)) va_nil))) (ve_ca ca_len gLen hLen (pe_callB call_len_seq (by rfl) (B.bi "len" (by decide)) (by decide +kernel) (va_cons (ve_v (pv 3) rfl) va_nil)))) ve_int) (by rfl)) fun count19 =>
  (vb_nil (b := (CIsland.mk nodes6 stations7 lines11 loads15 count19)) rfl (Le.se Le.e0 rfl))))))))))

abbrev s_Island_blank : Stmt := inClass (topS 1) 1
theorem sc_Island_blank : FnScope ["self"] ["self"] (defScope s_Island_blank) := ⟨rfl, rfl, rfl, by decide +kernel, rfl, by decide +kernel, by decide +kernel⟩
theorem ok_Island_blank (B : Bs K mg W) (hW : W.rc.xa = none) (d : Mth K W "Island" "blank" "Island.blank" s_Island_blank ["self"])  : CalM P w K mg base W "Island" "blank" 1 (fun a : (CIsland × Unit) => f_Island_blank a.1) (.lst .frz) :=
  calM d sc_Island_blank fun fa cdv Ar outer sh H E hr a => by
    have nd := sc_Island_blank.nd
    obtain ⟨self1, _⟩ := a
    exact (show VB (cxOf (L2.CX P w) P w K mg base ["self"] "Island.blank" (defScope s_Island_blank) fa cdv Ar outer sh H E) W (fun _ => E) (argE 0 [en self1]) (defBody s_Island_blank) (f_Island_blank self1) (rtOut (.lst .frz)) from
  (vb_ret0 (ps_ret (ve_eq (m' := (repR ([(0 : Int)] : List Int) (self1.count + (1 : Int)))) (te_rep (ve_frz (ve_lst (s := .frz) (fun (x : (Int × Unit)) => ([x.1] : List Int)) (va_cons ve_int va_nil))) (te_add (ve_fldD (x := self1.count) (j := 4) B.cl_Island (by decide +kernel) (by decide +kernel) (pv 0) rfl rfl) ve_int)) (by first | with_reducible rfl | simp only [R.bind_eta, R.bind_assoc, R.okb, R.exb, R.nob, R.map_eq, q_gInt, q_gIntB, q_gLen, q_gLenT, q_gLenN, q_gAbs, q_gMax2, q_gMin2, q_gGcd, q_gSum, q_gAny, q_gAll, q_gList, q_gListT, q_gTuple, q_gSorted, q_gRepr, q_cLt, q_cLe, q_cGt, q_cGe, q_cEq, q_cNe, q_cEqS, q_cNeS, q_cEqR, q_cNeR, q_cIsN, q_cIsS, q_cIn, q_cNi, q_cInT, q_cNiT] | rfl)))))

abbrev s_Island_add_potential : Stmt := inClass (topS 1) 2
theorem sc_Island_add_potential : FnScope ["self", "condition", "node", "factor", "place"] ["self", "condition", "node", "factor"] (defScope s_Island_add_potential) := ⟨rfl, rfl, rfl, by decide +kernel, rfl, by decide +kernel, by decide +kernel⟩
theorem ok_Island_add_potential (B : Bs K mg W) (hW : W.rc.xa = none) (d : Mth K W "Island" "add_potential" "Island.add_potential" s_Island_add_potential ["self", "condition", "node", "factor"])  : CalI P w K mg base W "Island" "add_potential" 1 (.lst .frz) (fun (a : CIsland × Unit) (z : (List Int)) (b : (Int × Int × Unit)) => (f_Island_add_potential a.1 z b.1 b.2.1).map fun s => ((), s)) .frz (.lst .frz) :=
  calI (g := (fun (a : CIsland × Unit) (z : (List Int)) (b : (Int × Int × Unit)) => f_Island_add_potential a.1 z b.1 b.2.1)) (s1 := (.lst .frz)) (s2 := (.lst .frz)) d sc_Island_add_potential fun fa cdv Ar outer sh H E hr a u condition2 b => by
    have nd := sc_Island_add_potential.nd
    obtain ⟨self1, _⟩ := a
    obtain ⟨node3, factor4, _⟩ := b
    exact (show VB (cxOf (L2.CX P w) P w K mg base ["self", "condition", "node", "factor", "place"] "Island.add_potential" (defScope s_Island_add_potential) fa cdv Ar outer sh H E) W (fun _ => E) (argI [en self1] (.vl (.ow (.lst .frz) (some u)) (en condition2)) [en node3, en factor4]) (defBody s_Island_add_potential) (f_Island_add_potential self1 condition2 node3 factor4) (fun s' : (List Int) => .nx (se e0 1 (.vl (.ow (.lst .frz) (some u)) (en s')))) from
  (vb_set (ps_set (i := 4) nd rfl (by first | exact Or.inl rfl | exact Or.inr rfl) (ve_eq (m' := (idxR self1.nodes node3)) (te_index (pe_bm PySem.F.plainAttrs_list PySem.F.slot_list_index PySem.F.type_list_index mt_index (ve_fldD (x := self1.nodes) (j := 0) B.cl_Island (by decide +kernel) (by decide +kernel) (pv 0) rfl rfl) (va_cons (ve_v (pv 2) rfl) va_nil))) (by first | with_reducible rfl | simp only [R.bind_eta, R.bind_assoc, R.okb, R.exb, R.nob, R.map_eq, q_gInt, q_gIntB, q_gLen, q_gLenT, q_gLenN, q_gAbs, q_gMax2, q_gMin2, q_gGcd, q_gSum, q_gAny, q_gAll, q_gList, q_gListT, q_gTuple, q_gSorted, q_gRepr, q_cLt, q_cLe, q_cGt, q_cGe, q_cEq, q_cNe, q_cEqS, q_cNeS, q_cEqR, q_cNeR, q_cIsN, q_cIsS, q_cIn, q_cNi, q_cInT, q_cNiT] | rfl))) fun place5 =>
  (vb_if (vt_eq (t' := (R.ok (decide ((0 : Int) < place5)))) (vt_cmp op_gt o2_gt cGt hGt (ve_v (pv 4) rfl) ve_int (nomark _)) (by rfl))
  (tb_augS (g := fun a b => a + b) (a := condition2) (s2 := .frz) (ps_augS (vp_v (pv 1)) (te_add (ve_ca ca_len gLen hLen (pe_callB call_len_seq (by rfl) (B.bi "len" (by decide)) (by decide +kernel) (va_cons (ve_fldD (x := self1.stations) (j := 1) B.cl_Island (by decide +kernel) (by decide +kernel) (pv 0) rfl rfl) va_nil))) (ve_v (pv 4) rfl)) pget_list (ve_v (pv 3) rfl) ip_add set_list) (by first | with_reducible rfl | simp only [R.bind_eta, R.bind_assoc, R.okb, R.exb, R.nob, R.map_eq, q_gInt, q_gIntB, q_gLen, q_gLenT, q_gLenN, q_gAbs, q_gMax2, q_gMin2, q_gGcd, q_gSum, q_gAny, q_gAll, q_gList, q_gListT, q_gTuple, q_gSorted, q_gRepr, q_cLt, q_cLe, q_cGt, q_cGe, q_cEq, q_cNe, q_cEqS, q_cNeS, q_cEqR, q_cNeR, q_cIsN, q_cIsS, q_cIn, q_cNi, q_cInT, q_cNiT] | rfl) fun condition6 =>
  (vb_nil (b := condition6) rfl (Le.se Le.e0 rfl)))
  (vb_nil (b := condition2) rfl (Le.se Le.e0 rfl)))))

abbrev s_Island_flow : Stmt := inClass (topS 1) 3
theorem sc_Island_flow : FnScope ["self", "line", "condition", "first", "second", "strength", "_"] ["self", "line"] (defScope s_Island_flow) := ⟨rfl, rfl, rfl, by decide +kernel, rfl, by decide +kernel, by decide +kernel⟩
theorem ok_Island_flow (B : Bs K mg W) (hW : W.rc.xa = none) (d : Mth K W "Island" "flow" "Island.flow" s_Island_flow ["self", "line"]) (c_Island_blank : CalM P w K mg base W "Island" "blank" 1 (fun a : (CIsland × Unit) => f_Island_blank a.1) (.lst .frz)) (c_Island_add_potential : CalI P w K mg base W "Island" "add_potential" 1 (.lst .frz) (fun (a : CIsland × Unit) (z : (List Int)) (b : (Int × Int × Unit)) => (f_Island_add_potential a.1 z b.1 b.2.1).map fun s => ((), s)) .frz (.lst .frz)) : CalM P w K mg base W "Island" "flow" 2 (fun a : (CIsland × (T4 Int Int Int Int) × Unit) => f_Island_flow a.1 a.2.1) (.lst .frz) :=
  calM d sc_Island_flow fun fa cdv Ar outer sh H E hr a => by
    have nd := sc_Island_flow.nd
    obtain ⟨self1, line2, _⟩ := a
    exact (show VB (cxOf (L2.CX P w) P w K mg base ["self", "line", "condition", "first", "second", "strength", "_"] "Island.flow" (defScope s_Island_flow) fa cdv Ar outer sh H E) W (fun _ => E) (argE 0 [en self1, en line2]) (defBody s_Island_flow) (f_Island_flow self1 line2) (rtOut (.lst .frz)) from
  (tb_asg (P := fun _ => true) (g := (gT 4 (gsC (gN 3) (gsC (gN 4) (gsC (gN 5) (gsC (gN 6) gsN)))))) (fun a3 => rfl) (ps_asg (ve_eq (m' := (R.ok line2)) (ve_v (pv 1) rfl) (by rfl)) (vg_tup rfl (vgs_cons (vg_name (pg_name (i := 3) nd rfl (by first | exact Or.inl rfl | exact Or.inr rfl))) (vgs_cons (vg_name (pg_name (i := 4) nd rfl (by first | exact Or.inl rfl | exact Or.inr rfl))) (vgs_cons (vg_name (pg_name (i := 5) nd rfl (by first | exact Or.inl rfl | exact Or.inr rfl))) (vgs_cons (vg_name (pg_name (i := 6) nd rfl (by first | exact Or.inl rfl | exact Or.inr rfl))) vgs_nil)))))) fun a3 =>
  (vb_setN (ps_set (i := 2) nd rfl (by first | exact Or.inl rfl | exact Or.inr rfl) (ve_eq (m' := (f_Island_blank self1)) (ve_meth0 vs_Island c_Island_blank hr (pass_fn (takes_of rfl rfl rfl rfl)) (ve_v (pv 0) rfl) (fun _ => rfl) (fun _ => rfl) (by decide +kernel)) (by first | with_reducible rfl | simp only [R.bind_eta, R.bind_assoc, R.okb, R.exb, R.nob, R.map_eq, q_gInt, q_gIntB, q_gLen, q_gLenT, q_gLenN, q_gAbs, q_gMax2, q_gMin2, q_gGcd, q_gSum, q_gAny, q_gAll, q_gList, q_gListT, q_gTuple, q_gSorted, q_gRepr, q_cLt, q_cLe, q_cGt, q_cGe, q_cEq, q_cNe, q_cEqS, q_cNeS, q_cEqR, q_cNeR, q_cIsN, q_cIsS, q_cIn, q_cNi, q_cInT, q_cNiT] | rfl))) fun condition4 =>
  (vb_methA (z := condition4) vs_Island c_Island_add_potential hr (pass_fn (takes_of rfl rfl rfl rfl)) rfl (ve_v (pv 0) rfl) (pv 2) (va_cons (ve_v (pv 3) rfl) (va_cons (ve_v (pv 5) rfl) va_nil)) (fun _ => rfl) (fun _ => rfl) (by decide +kernel) (by first | with_reducible rfl | simp only [R.bind_eta, R.bind_assoc, R.okb, R.exb, R.nob, R.map_eq, q_gInt, q_gIntB, q_gLen, q_gLenT, q_gLenN, q_gAbs, q_gMax2, q_gMin2, q_gGcd, q_gSum, q_gAny, q_gAll, q_gList, q_gListT, q_gTuple, q_gSorted, q_gRepr, q_cLt, q_cLe, q_cGt, q_cGe, q_cEq, q_cNe, q_cEqS, q_cNeS, q_cEqR, q_cNeR, q_cIsN, q_cIsS, q_cIn, q_cNi, q_cInT, q_cNiT] | rfl) fun condition5 =>
  (vb_methA (z := condition5) vs_Island c_Island_add_potential hr (pass_fn (takes_of rfl rfl rfl rfl)) rfl (ve_v (pv 0) rfl) (pv 2) (va_cons (ve_v (pv 4) rfl) (va_cons (te_neg (ve_v (pv 5) rfl)) va_nil)) (fun _ => rfl) (fun _ => rfl) (by decide +kernel) (by first | with_reducible rfl | simp only [R.bind_eta, R.bind_assoc, R.okb, R.exb, R.nob, R.map_eq, q_gInt, q_gIntB, q_gLen, q_gLenT, q_gLenN, q_gAbs, q_gMax2, q_gMin2, q_gGcd, q_gSum, q_gAny, q_gAll, q_gList, q_gListT, q_gTuple, q_gSorted, q_gRepr, q_cLt, q_cLe, q_cGt, q_cGe, q_cEq, q_cNe, q_cEqS, q_cNeS, q_cEqR, q_cNeR, q_cIsN, q_cIsS, q_cIn, q_cNi, q_cInT, q_cNiT] | rfl) fun condition6 =>
  (vb_retO (ps_ret (pv 2)) rfl rfl))))))

abbrev s_Island_excess : Stmt := inClass (topS 1) 4
theorem sc_Island_excess : FnScope ["self", "node", "condition", "load", "line", "place", "station", "factor", "item", "part"] ["self", "node"] (defScope s_Island_excess) := ⟨rfl, rfl, rfl, by decide +kernel, rfl, by decide +kernel, by decide +kernel⟩
theorem ok_Island_excess (B : Bs K mg W) (hW : W.rc.xa = none) (d : Mth K W "Island" "excess" "Island.excess" s_Island_excess ["self", "node"]) (c_Island_blank : CalM P w K mg base W "Island" "blank" 1 (fun a : (CIsland × Unit) => f_Island_blank a.1) (.lst .frz)) (c_Island_flow : CalM P w K mg base W "Island" "flow" 2 (fun a : (CIsland × (T4 Int Int Int Int) × Unit) => f_Island_flow a.1 a.2.1) (.lst .frz)) : CalM P w K mg base W "Island" "excess" 3 (fun a : (CIsland × Int × Unit) => f_Island_excess a.1 a.2.1) (.lst .frz) :=
  calM d sc_Island_excess fun fa cdv Ar outer sh H E hr a => by
    have nd := sc_Island_excess.nd
    obtain ⟨self1, node2, _⟩ := a
    exact (show VB (cxOf (L2.CX P w) P w K mg base ["self", "node", "condition", "load", "line", "place", "station", "factor", "item", "part"] "Island.excess" (defScope s_Island_excess) fa cdv Ar outer sh H E) W (fun _ => E) (argE 0 [en self1, en node2]) (defBody s_Island_excess) (f_Island_excess self1 node2) (rtOut (.lst .frz)) from
  (vb_setN (ps_set (i := 2) nd rfl (by first | exact Or.inl rfl | exact Or.inr rfl) (ve_eq (m' := (f_Island_blank self1)) (ve_meth0 vs_Island c_Island_blank hr (pass_fn (takes_of rfl rfl rfl rfl)) (ve_v (pv 0) rfl) (fun _ => rfl) (fun _ => rfl) (by decide +kernel)) (by first | with_reducible rfl | simp only [R.bind_eta, R.bind_assoc, R.okb, R.exb, R.nob, R.map_eq, q_gInt, q_gIntB, q_gLen, q_gLenT, q_gLenN, q_gAbs, q_gMax2, q_gMin2, q_gGcd, q_gSum, q_gAny, q_gAll, q_gList, q_gListT, q_gTuple, q_gSorted, q_gRepr, q_cLt, q_cLe, q_cGt, q_cGe, q_cEq, q_cNe, q_cEqS, q_cNeS, q_cEqR, q_cNeR, q_cIsN, q_cIsS, q_cIn, q_cNi, q_cInT, q_cNiT] | rfl))) fun condition3 =>
  (tb_for (f := (f_Island_excess_l1 self1 node2)) (e := (fun s1 : (List Int) => (se (se (se e0 0 (.vl .fz (en self1))) 1 (.vl .fz (en node2))) 2 (.vl (.ow (.lst .frz) none) (en s1))))) (s0 := condition3) (g := (gT 2 (gsC (gN 5) (gsC (gN 6) gsN)))) (fun _ _ => rfl) (passes_of rfl) rfl (vi_eqm (m' := (R.ok (enumL 0 self1.stations))) (vi_enum (by rfl) (B.bi "enumerate" (by decide)) (ve_fldD (x := self1.stations) (j := 1) B.cl_Island (by decide +kernel) (by decide +kernel) (pv 0) rfl rfl)) (by rfl)) (vg_tup rfl (vgs_cons (vg_name (pg_name (i := 5) nd rfl (by first | exact Or.inl rfl | exact Or.inr rfl))) (vgs_cons (vg_name (pg_name (i := 6) nd rfl (by first | exact Or.inl rfl | exact Or.inr rfl))) vgs_nil))) (Le.se (Le.se (Le.se Le.e0 rfl) rfl) rfl)
  (fun x1_ s1 => (vb_if (vt_eq (t' := (R.ok (decide (x1_.2.a = node2)))) (vt_cmp (op_eqA hr.room.units) o2_eq cEq (hEq) (te_prj (fun x : (T4 Int Int Int Bool) => x.a) (ve_v (pv 6) rfl) ve_int) (ve_v (pv 1) rfl) (nomark _)) (by rfl))
  (tb_augS (g := fun a b => a + b) (a := s1) (s2 := .frz) (ps_augS (vp_v (pv 2)) (te_add ve_int (ve_v (pv 5) rfl)) pget_list ve_int ip_add set_list) (by first | with_reducible rfl | simp only [R.bind_eta, R.bind_assoc, R.okb, R.exb, R.nob, R.map_eq, q_gInt, q_gIntB, q_gLen, q_gLenT, q_gLenN, q_gAbs, q_gMax2, q_gMin2, q_gGcd, q_gSum, q_gAny, q_gAll, q_gList, q_gListT, q_gTuple, q_gSorted, q_gRepr, q_cLt, q_cLe, q_cGt, q_cGe, q_cEq, q_cNe, q_cEqS, q_cNeS, q_cEqR, q_cNeR, q_cIsN, q_cIsS, q_cIn, q_cNi, q_cInT, q_cNiT] | rfl) fun condition6 =>
  (vb_nilC (b := condition6) rfl (Le.se (Le.se (Le.se Le.e0 rfl) rfl) rfl)))
  (vb_nilC (b := s1) rfl (Le.se (Le.se (Le.se Le.e0 rfl) rfl) rfl))))
  fun s1' => (tb_for (f := (f_Island_excess_l2 self1 node2)) (e := (fun s2 : (List Int) => (se (se (se e0 0 (.vl .fz (en self1))) 1 (.vl .fz (en node2))) 2 (.vl (.ow (.lst .frz) none) (en s2))))) (s0 := (s1')) (g := (gN 3)) (fun _ _ => rfl) (passes_of rfl) rfl (vi_eqm (m' := (R.ok self1.loads)) (vi_list (ve_fldD (x := self1.loads) (j := 3) B.cl_Island (by decide +kernel) (by decide +kernel) (pv 0) rfl rfl)) (by rfl)) (vg_name (pg_name (i := 3) nd rfl (by first | exact Or.inl rfl | exact Or.inr rfl))) (Le.se (Le.se (Le.se Le.e0 rfl) rfl) rfl)
  (fun x2_ s2 => (vb_if (vt_eq (t' := (R.ok (decide (x2_.1 = node2)))) (vt_cmp (op_eqA hr.room.units) o2_eq cEq (hEq) (te_prj (fun x : (Int × Int) => x.1) (ve_v (pv 3) rfl) ve_int) (ve_v (pv 1) rfl) (nomark _)) (by rfl))
  (tb_augS (g := fun a b => a - b) (a := s2) (s2 := .frz) (ps_augS (vp_v (pv 2)) ve_int pget_list (te_prj (fun x : (Int × Int) => x.2) (ve_v (pv 3) rfl) ve_int) ip_sub set_list) (by first | with_reducible rfl | simp only [R.bind_eta, R.bind_assoc, R.okb, R.exb, R.nob, R.map_eq, q_gInt, q_gIntB, q_gLen, q_gLenT, q_gLenN, q_gAbs, q_gMax2, q_gMin2, q_gGcd, q_gSum, q_gAny, q_gAll, q_gList, q_gListT, q_gTuple, q_gSorted, q_gRepr, q_cLt, q_cLe, q_cGt, q_cGe, q_cEq, q_cNe, q_cEqS, q_cNeS, q_cEqR, q_cNeR, q_cIsN, q_cIsS, q_cIn, q_cNi, q_cInT, q_cNiT] | rfl) fun condition10 =>
  (vb_nilC (b := condition10) rfl (Le.se (Le.se (Le.se Le.e0 rfl) rfl) rfl)))
  (vb_nilC (b := s2) rfl (Le.se (Le.se (Le.se Le.e0 rfl) rfl) rfl))))
  fun s2' => (tb_for (f := (f_Island_excess_l3 self1 node2)) (e := (fun s3 : (List Int) => (se (se (se e0 0 (.vl .fz (en self1))) 1 (.vl .fz (en node2))) 2 (.vl (.ow (.lst .frz) none) (en s3))))) (s0 := (s2')) (g := (gN 4)) (fun _ _ => rfl) (passes_of rfl) rfl (vi_eqm (m' := (R.ok self1.lines)) (vi_list (ve_fldD (x := self1.lines) (j := 2) B.cl_Island (by decide +kernel) (by decide +kernel) (pv 0) rfl rfl)) (by rfl)) (vg_name (pg_name (i := 4) nd rfl (by first | exact Or.inl rfl | exact Or.inr rfl))) (Le.se (Le.se (Le.se Le.e0 rfl) rfl) rfl)
  (fun x3_ s3 => (vb_set (ps_set (i := 7) nd rfl (by first | exact Or.inl rfl | exact Or.inr rfl) (ve_eq (m' := (R.ok (if (decide (x3_.a = node2)) = true then (-(1 : Int)) else (1 : Int)))) (ve_ifP (vt_eq (t' := (R.ok (decide (x3_.a = node2)))) (vt_cmp (op_eqA hr.room.units) o2_eq cEq (hEq) (te_prj (fun x : (T4 Int Int Int Int) => x.a) (ve_v (pv 4) rfl) ve_int) (ve_v (pv 1) rfl) (nomark _)) (by rfl)) (ve_eq (m' := (R.ok (-(1 : Int)))) (te_neg ve_int) (by rfl)) (ve_eq (m' := (R.ok (1 : Int))) ve_int (by rfl))) (by rfl))) fun factor14 =>
  (vb_if (vt_w (vw_orP (vt_eq (t' := (R.ok (decide (node2 = x3_.a)))) (vt_cmp (op_eqA hr.room.units) o2_eq cEq (hEq) (ve_v (pv 1) rfl) (te_prj (fun x : (T4 Int Int Int Int) => x.a) (ve_v (pv 4) rfl) ve_int) (nomark _)) (by rfl)) (vw_or1 (vt_eq (t' := (R.ok (decide (node2 = x3_.b)))) (vt_cmp (op_eqA hr.room.units) o2_eq cEq (hEq) (ve_v (pv 1) rfl) (te_prj (fun x : (T4 Int Int Int Int) => x.b) (ve_v (pv 4) rfl) ve_int) (nomark _)) (by rfl)))))
  (vb_setN (ps_eqm (m' := (((f_Island_flow self1 x3_).bind fun x15 => R.ok (s3.zip x15)).bind fun x18 => (noX (mapR (fun v16 : (Int × Int) => ((mulR factor14 v16.2).bind fun x17 => R.ok (v16.1 + x17))) x18)))) (ps_gr (ts_lc (i := 2) (own := [("item", 8), ("part", 9)]) (g := (gT 2 (gsC (gN 8) (gsC (gN 9) gsN)))) lcM rfl nd rfl rfl (sw_true rfl rfl rfl (by decide +kernel)) (vi_zip (by rfl) (B.bi "zip" (by decide)) (ve_v (pv 2) rfl) (ve_frz (ve_meth vs_Island c_Island_flow hr (pass_fn (takes_of rfl rfl rfl rfl)) (ve_v (pv 0) rfl) (va_cons (ve_v (pv 4) rfl) va_nil) (fun _ => rfl) (fun _ => rfl) (by decide +kernel)))) (blkOk_by (N := ["self", "node", "condition", "load", "line", "place", "station", "factor", "item", "part"]) (sc := defScope s_Island_excess) (by decide +kernel)) (fun _ _ _ _ _ => (vg_tup rfl (vgs_cons (vg_name (pg_name (i := 8) nd rfl (by first | exact Or.inl rfl | exact Or.inr rfl))) (vgs_cons (vg_name (pg_name (i := 9) nd rfl (by first | exact Or.inl rfl | exact Or.inr rfl))) vgs_nil)))) (fun _ => rfl) (fun (v16 : (Int × Int)) _ _ _ _ _ => vts_nil) (fun (v16 : (Int × Int)) _ _ _ _ _ => (ve_eq (m' := ((mulR factor14 v16.2).bind fun x17 => R.ok (v16.1 + x17))) (te_add (ve_v (pv 8) rfl) (te_mul (ve_v (pv 7) rfl) (ve_v (pv 9) rfl))) (by first | with_reducible rfl | simp only [R.bind_eta, R.bind_assoc, R.okb, R.exb, R.nob, R.map_eq, q_gInt, q_gIntB, q_gLen, q_gLenT, q_gLenN, q_gAbs, q_gMax2, q_gMin2, q_gGcd, q_gSum, q_gAny, q_gAll, q_gList, q_gListT, q_gTuple, q_gSorted, q_gRepr, q_cLt, q_cLe, q_cGt, q_cGe, q_cEq, q_cNe, q_cEqS, q_cNeS, q_cEqR, q_cNeR, q_cIsN, q_cIsS, q_cIn, q_cNi, q_cInT, q_cNiT] | rfl))))) (by first | with_reducible rfl | simp only [R.bind_eta, R.bind_assoc, R.okb, R.exb, R.nob, R.map_eq, q_gInt, q_gIntB, q_gLen, q_gLenT, q_gLenN, q_gAbs, q_gMax2, q_gMin2, q_gGcd, q_gSum, q_gAny, q_gAll, q_gList, q_gListT, q_gTuple, q_gSorted, q_gRepr, q_cLt, q_cLe, q_cGt, q_cGe, q_cEq, q_cNe, q_cEqS, q_cNeS, q_cEqR, q_cNeR, q_cIsN, q_cIsS, q_cIn, q_cNi, q_cInT, q_cNiT] | rfl)) fun condition19 =>
  (vb_nilC (b := condition19) rfl (Le.se (Le.se (Le.se Le.e0 rfl) rfl) rfl)))
  (vb_nilC (b := s3) rfl (Le.se (Le.se (Le.se Le.e0 rfl) rfl) rfl)))))
  fun s3' => (vb_retO (ps_ret (pv 2)) rfl rfl))))))

abbrev s_Island_conditions : Stmt := inClass (topS 1) 5
theorem sc_Island_conditions : FnScope ["self", "found", "line", "node", "place", "station", "low", "high", "sign", "excess", "_", "least", "greatest", "condition", "item"] ["self"] (defScope s_Island_conditions) := ⟨rfl, rfl, rfl, by decide +kernel, rfl, by decide +kernel, by decide +kernel⟩
theorem ok_Island_conditions (B : Bs K mg W) (hW : W.rc.xa = none) (d : Mth K W "Island" "conditions" "Island.conditions" s_Island_conditions ["self"]) (c_Island_blank : CalM P w K mg base W "Island" "blank" 1 (fun a : (CIsland × Unit) => f_Island_blank a.1) (.lst .frz)) (c_Island_flow : CalM P w K mg base W "Island" "flow" 2 (fun a : (CIsland × (T4 Int Int Int Int) × Unit) => f_Island_flow a.1 a.2.1) (.lst .frz)) (c_Island_excess : CalM P w K mg base W "Island" "excess" 3 (fun a : (CIsland × Int × Unit) => f_Island_excess a.1 a.2.1) (.lst .frz)) : CalM P w K mg base W "Island" "conditions" 4 (fun a : (CIsland × Unit) => f_Island_conditions a.1) (.lst (.lst .frz)) :=
  calM d sc_Island_conditions fun fa cdv Ar outer sh H E hr a => by
    have nd := sc_Island_conditions.nd
    obtain ⟨self1, _⟩ := a
    exact (show VB (cxOf (L2.CX P w) P w K mg base ["self", "found", "line", "node", "place", "station", "low", "high", "sign", "excess", "_", "least", "greatest", "condition", "item"] "Island.conditions" (defScope s_Island_conditions) fa cdv Ar outer sh H E) W (fun _ => E) (argE 0 [en self1]) (defBody s_Island_conditions) (f_Island_conditions self1) (rtOut (.lst (.lst .frz))) from
  (vb_setN (ps_set (i := 1) nd rfl (by first | exact Or.inl rfl | exact Or.inr rfl) (ve_eq (m' := (R.ok ([] : List (List Int)))) (ve_lst (s := (.lst .frz)) (fun (x : (Unit)) => ([] : List (List Int))) va_nil) (by rfl))) fun found2 =>
  (tb_for (f := (f_Island_conditions_l1 self1)) (e := (fun s1 : (List (List Int)) => (se (se e0 0 (.vl .fz (en self1))) 1 (.vl (.ow (.lst (.lst .frz)) none) (en s1))))) (s0 := found2) (g := (gT 2 (gsC (gN 4) (gsC (gN 5) gsN)))) (fun _ _ => rfl) (passes_of rfl) rfl (vi_eqm (m' := (R.ok (enumL 0 self1.stations))) (vi_enum (by rfl) (B.bi "enumerate" (by decide)) (ve_fldD (x := self1.stations) (j := 1) B.cl_Island (by decide +kernel) (by decide +kernel) (pv 0) rfl rfl)) (by rfl)) (vg_tup rfl (vgs_cons (vg_name (pg_name (i := 4) nd rfl (by first | exact Or.inl rfl | exact Or.inr rfl))) (vgs_cons (vg_name (pg_name (i := 5) nd rfl (by first | exact Or.inl rfl | exact Or.inr rfl))) vgs_nil))) (Le.se (Le.se Le.e0 rfl) rfl)
  (fun x1_ s1 => (tb_asg (P := fun _ => true) (g := (gT 4 (gsC (gN 10) (gsC (gN 11) (gsC (gN 12) (gsC (gN 10) gsN)))))) (fun a4 => rfl) (ps_asg (ve_eq (m' := (R.ok x1_.2)) (ve_v (pv 5) rfl) (by rfl)) (vg_tup rfl (vgs_cons (vg_name (pg_name (i := 10) nd rfl (by first | exact Or.inl rfl | exact Or.inr rfl))) (vgs_cons (vg_name (pg_name (i := 11) nd rfl (by first | exact Or.inl rfl | exact Or.inr rfl))) (vgs_cons (vg_name (pg_name (i := 12) nd rfl (by first | exact Or.inl rfl | exact Or.inr rfl))) (vgs_cons (vg_name (pg_name (i := 10) nd rfl (by first | exact Or.inl rfl | exact Or.inr rfl))) vgs_nil)))))) fun a4 =>
  (vb_setN (ps_set (i := 6) nd rfl (by first | exact Or.inl rfl | exact Or.inr rfl) (ve_eq (m' := (f_Island_blank self1)) (ve_meth0 vs_Island c_Island_blank hr (pass_fn (takes_of rfl rfl rfl rfl)) (ve_v (pv 0) rfl) (fun _ => rfl) (fun _ => rfl) (by decide +kernel)) (by first | with_reducible rfl | simp only [R.bind_eta, R.bind_assoc, R.okb, R.exb, R.nob, R.map_eq, q_gInt, q_gIntB, q_gLen, q_gLenT, q_gLenN, q_gAbs, q_gMax2, q_gMin2, q_gGcd, q_gSum, q_gAny, q_gAll, q_gList, q_gListT, q_gTuple, q_gSorted, q_gRepr, q_cLt, q_cLe, q_cGt, q_cGe, q_cEq, q_cNe, q_cEqS, q_cNeS, q_cEqR, q_cNeR, q_cIsN, q_cIsS, q_cIn, q_cNi, q_cInT, q_cNiT] | rfl))) fun low5 =>
  (tb_put (a := low5) (s2 := .frz) (ps_asg (te_neg (ve_v (pv 11) rfl)) (pg_sub (vp_v (pv 6)) ve_int set_list)) (by first | with_reducible rfl | simp only [R.bind_eta, R.bind_assoc, R.okb, R.exb, R.nob, R.map_eq, q_gInt, q_gIntB, q_gLen, q_gLenT, q_gLenN, q_gAbs, q_gMax2, q_gMin2, q_gGcd, q_gSum, q_gAny, q_gAll, q_gList, q_gListT, q_gTuple, q_gSorted, q_gRepr, q_cLt, q_cLe, q_cGt, q_cGe, q_cEq, q_cNe, q_cEqS, q_cNeS, q_cEqR, q_cNeR, q_cIsN, q_cIsS, q_cIn, q_cNi, q_cInT, q_cNiT] | rfl) fun low6 =>
  (tb_put (a := low6) (s2 := .frz) (ps_asg ve_int (pg_sub (vp_v (pv 6)) (te_add ve_int (ve_v (pv 4) rfl)) set_list)) (by first | with_reducible rfl | simp only [R.bind_eta, R.bind_assoc, R.okb, R.exb, R.nob, R.map_eq, q_gInt, q_gIntB, q_gLen, q_gLenT, q_gLenN, q_gAbs, q_gMax2, q_gMin2, q_gGcd, q_gSum, q_gAny, q_gAll, q_gList, q_gListT, q_gTuple, q_gSorted, q_gRepr, q_cLt, q_cLe, q_cGt, q_cGe, q_cEq, q_cNe, q_cEqS, q_cNeS, q_cEqR, q_cNeR, q_cIsN, q_cIsS, q_cIn, q_cNi, q_cInT, q_cNiT] | rfl) fun low7 =>
  (vb_setN (ps_set (i := 7) nd rfl (by first | exact Or.inl rfl | exact Or.inr rfl) (ve_eq (m' := (f_Island_blank self1)) (ve_meth0 vs_Island c_Island_blank hr (pass_fn (takes_of rfl rfl rfl rfl)) (ve_v (pv 0) rfl) (fun _ => rfl) (fun _ => rfl) (by decide +kernel)) (by first | with_reducible rfl | simp only [R.bind_eta, R.bind_assoc, R.okb, R.exb, R.nob, R.map_eq, q_gInt, q_gIntB, q_gLen, q_gLenT, q_gLenN, q_gAbs, q_gMax2, q_gMin2, q_gGcd, q_gSum, q_gAny, q_gAll, q_gList, q_gListT, q_gTuple, q_gSorted, q_gRepr, q_cLt, q_cLe, q_cGt, q_cGe, q_cEq, q_cNe, q_cEqS, q_cNeS, q_cEqR, q_cNeR, q_cIsN, q_cIsS, q_cIn, q_cNi, q_cInT, q_cNiT] | rfl))) fun high8 =>
  (tb_put (a := high8) (s2 := .frz) (ps_asg (ve_v (pv 12) rfl) (pg_sub (vp_v (pv 7)) ve_int set_list)) (by first | with_reducible rfl | simp only [R.bind_eta, R.bind_assoc, R.okb, R.exb, R.nob, R.map_eq, q_gInt, q_gIntB, q_gLen, q_gLenT, q_gLenN, q_gAbs, q_gMax2, q_gMin2, q_gGcd, q_gSum, q_gAny, q_gAll, q_gList, q_gListT, q_gTuple, q_gSorted, q_gRepr, q_cLt, q_cLe, q_cGt, q_cGe, q_cEq, q_cNe, q_cEqS, q_cNeS, q_cEqR, q_cNeR, q_cIsN, q_cIsS, q_cIn, q_cNi, q_cInT, q_cNiT] | rfl) fun high9 =>
  (tb_put (a := high9) (s2 := .frz) (ps_asg (te_neg ve_int) (pg_sub (vp_v (pv 7)) (te_add ve_int (ve_v (pv 4) rfl)) set_list)) (by first | with_reducible rfl | simp only [R.bind_eta, R.bind_assoc, R.okb, R.exb, R.nob, R.map_eq, q_gInt, q_gIntB, q_gLen, q_gLenT, q_gLenN, q_gAbs, q_gMax2, q_gMin2, q_gGcd, q_gSum, q_gAny, q_gAll, q_gList, q_gListT, q_gTuple, q_gSorted, q_gRepr, q_cLt, q_cLe, q_cGt, q_cGe, q_cEq, q_cNe, q_cEqS, q_cNeS, q_cEqR, q_cNeR, q_cIsN, q_cIsS, q_cIn, q_cNi, q_cInT, q_cNiT] | rfl) fun high10 =>
  (vb_setM (ps_set (i := 1) nd rfl (by first | exact Or.inl rfl | exact Or.inr rfl) (vm_eq (m' := (catR s1 ([low7, high10] : List (List Int)))) (vm_cat (vm_v (pv 1) rfl) (vm_lst (s := (.lst .frz)) (fun (x : ((List Int) × (List Int) × Unit)) => ([x.1, x.2.1] : List (List Int))) (vma_cons (vm_v (pv 6) rfl) (vma_cons (vm_v (pv 7) rfl) vma_nil)))) (by first | with_reducible rfl | simp only [R.bind_eta, R.bind_assoc, R.okb, R.exb, R.nob, R.map_eq, q_gInt, q_gIntB, q_gLen, q_gLenT, q_gLenN, q_gAbs, q_gMax2, q_gMin2, q_gGcd, q_gSum, q_gAny, q_gAll, q_gList, q_gListT, q_gTuple, q_gSorted, q_gRepr, q_cLt, q_cLe, q_cGt, q_cGe, q_cEq, q_cNe, q_cEqS, q_cNeS, q_cEqR, q_cNeR, q_cIsN, q_cIsS, q_cIn, q_cNi, q_cInT, q_cNiT] | rfl))) fun found11 =>
  (vb_nilC (b := found11) rfl (Le.se (Le.se Le.e0 rfl) rfl)))))))))))
  fun s1' => (tb_for (f := (f_Island_conditions_l2 self1)) (e := (fun s2 : (List (List Int)) => (se (se e0 0 (.vl .fz (en self1))) 1 (.vl (.ow (.lst (.lst .frz)) none) (en s2))))) (s0 := (s1')) (g := (gN 2)) (fun _ _ => rfl) (passes_of rfl) rfl (vi_eqm (m' := (R.ok self1.lines)) (vi_list (ve_fldD (x := self1.lines) (j := 2) B.cl_Island (by decide +kernel) (by decide +kernel) (pv 0) rfl rfl)) (by rfl)) (vg_name (pg_name (i := 2) nd rfl (by first | exact Or.inl rfl | exact Or.inr rfl))) (Le.se (Le.se Le.e0 rfl) rfl)
  (fun x2_ s2 => (tb_for (f := (f_Island_conditions_l3 self1 x2_)) (e := (fun s3 : (List (List Int)) => (se (se (se e0 0 (.vl .fz (en self1))) 1 (.vl (.ow (.lst (.lst .frz)) none) (en s3))) 2 (.vl .fz (en x2_))))) (s0 := s2) (g := (gN 8)) (fun _ _ => rfl) (passes_of rfl) rfl (vi_eqm (m' := (R.ok (Tu.mk ([(-(1 : Int)), (1 : Int)] : List Int)).l)) (vi_tup (ve_frz (ve_tup (s := .frz) (fun (x : (Int × Int × Unit)) => (Tu.mk [x.1, x.2.1] : (Tu Int))) (va_cons (te_neg ve_int) (va_cons ve_int va_nil))))) (by rfl)) (vg_name (pg_name (i := 8) nd rfl (by first | exact Or.inl rfl | exact Or.inr rfl))) (Le.se (Le.se (Le.se Le.e0 rfl) rfl) rfl)
  (fun x3_ s3 => (vb_setN (ps_eqm (m' := ((f_Island_flow self1 x2_).bind fun x16 => (noX (mapR (fun v15 : Int => (mulR x3_ v15)) x16)))) (ts_lc (i := 13) (own := [("item", 14)]) (g := (gN 14)) lcM rfl nd rfl rfl (sw_true rfl rfl rfl (by decide +kernel)) (vi_list (ve_frz (ve_meth vs_Island c_Island_flow hr (pass_fn (takes_of rfl rfl rfl rfl)) (ve_v (pv 0) rfl) (va_cons (ve_v (pv 2) rfl) va_nil) (fun _ => rfl) (fun _ => rfl) (by decide +kernel)))) (blkOk_by (N := ["self", "found", "line", "node", "place", "station", "low", "high", "sign", "excess", "_", "least", "greatest", "condition", "item"]) (sc := defScope s_Island_conditions) (by decide +kernel)) (fun _ _ _ _ _ => (vg_name (pg_name (i := 14) nd rfl (by first | exact Or.inl rfl | exact Or.inr rfl)))) (fun _ => rfl) (fun (v15 : Int) _ _ _ _ _ => vts_nil) (fun (v15 : Int) _ _ _ _ _ => (ve_eq (m' := (mulR x3_ v15)) (te_mul (ve_v (pv 8) rfl) (ve_v (pv 14) rfl)) (by first | with_reducible rfl | simp only [R.bind_eta, R.bind_assoc, R.okb, R.exb, R.nob, R.map_eq, q_gInt, q_gIntB, q_gLen, q_gLenT, q_gLenN, q_gAbs, q_gMax2, q_gMin2, q_gGcd, q_gSum, q_gAny, q_gAll, q_gList, q_gListT, q_gTuple, q_gSorted, q_gRepr, q_cLt, q_cLe, q_cGt, q_cGe, q_cEq, q_cNe, q_cEqS, q_cNeS, q_cEqR, q_cNeR, q_cIsN, q_cIsS, q_cIn, q_cNi, q_cInT, q_cNiT] | rfl)))) (by first | with_reducible rfl | simp only [R.bind_eta, R.bind_assoc, R.okb, R.exb, R.nob, R.map_eq, q_gInt, q_gIntB, q_gLen, q_gLenT, q_gLenN, q_gAbs, q_gMax2, q_gMin2, q_gGcd, q_gSum, q_gAny, q_gAll, q_gList, q_gListT, q_gTuple, q_gSorted, q_gRepr, q_cLt, q_cLe, q_cGt, q_cGe, q_cEq, q_cNe, q_cEqS, q_cNeS, q_cEqR, q_cNeR, q_cIsN, q_cIsS, q_cIn, q_cNi, q_cInT, q_cNiT] | rfl)) fun condition17 =>
  (tb_put (a := condition17) (s2 := .frz) (ps_asg (te_prj (fun x : (T4 Int Int Int Int) => x.d) (ve_v (pv 2) rfl) ve_int) (pg_sub (vp_v (pv 13)) ve_int set_list)) (by first | with_reducible rfl | simp only [R.bind_eta, R.bind_assoc, R.okb, R.exb, R.nob, R.map_eq, q_gInt, q_gIntB, q_gLen, q_gLenT, q_gLenN, q_gAbs, q_gMax2, q_gMin2, q_gGcd, q_gSum, q_gAny, q_gAll, q_gList, q_gListT, q_gTuple, q_gSorted, q_gRepr, q_cLt, q_cLe, q_cGt, q_cGe, q_cEq, q_cNe, q_cEqS, q_cNeS, q_cEqR, q_cNeR, q_cIsN, q_cIsS, q_cIn, q_cNi, q_cInT, q_cNiT] | rfl) fun condition18 =>
  (vb_appM (ps_expr (pe_bm PySem.F.plainAttrs_list PySem.F.slot_list_append PySem.F.type_list_append mt_append (pv 1) (pa_cons (vm_v (pv 13) rfl) pa_nil))) rfl rfl (by rfl) fun found19 =>
  (vb_nilC (b := found19) rfl (Le.se (Le.se (Le.se Le.e0 rfl) rfl) rfl))))))
  fun s3' => (vb_nilC (b := (s3')) rfl (Le.se (Le.se Le.e0 rfl) rfl))))
  fun s2' => (tb_for (f := (f_Island_conditions_l4 self1)) (e := (fun s4 : (List (List Int)) => (se (se e0 0 (.vl .fz (en self1))) 1 (.vl (.ow (.lst (.lst .frz)) none) (en s4))))) (s0 := (s2')) (g := (gN 3)) (fun _ _ => rfl) (passes_of rfl) rfl (vi_eqm (m' := (R.ok self1.nodes)) (vi_list (ve_fldD (x := self1.nodes) (j := 0) B.cl_Island (by decide +kernel) (by decide +kernel) (pv 0) rfl rfl)) (by rfl)) (vg_name (pg_name (i := 3) nd rfl (by first | exact Or.inl rfl | exact Or.inr rfl))) (Le.se (Le.se Le.e0 rfl) rfl)
  (fun x4_ s4 => (vb_setN (ps_set (i := 9) nd rfl (by first | exact Or.inl rfl | exact Or.inr rfl) (ve_eq (m' := (f_Island_excess self1 x4_)) (ve_meth vs_Island c_Island_excess hr (pass_fn (takes_of rfl rfl rfl rfl)) (ve_v (pv 0) rfl) (va_cons (ve_v (pv 3) rfl) va_nil) (fun _ => rfl) (fun _ => rfl) (by decide +kernel)) (by first | with_reducible rfl | simp only [R.bind_eta, R.bind_assoc, R.okb, R.exb, R.nob, R.map_eq, q_gInt, q_gIntB, q_gLen, q_gLenT, q_gLenN, q_gAbs, q_gMax2, q_gMin2, q_gGcd, q_gSum, q_gAny, q_gAll, q_gList, q_gListT, q_gTuple, q_gSorted, q_gRepr, q_cLt, q_cLe, q_cGt, q_cGe, q_cEq, q_cNe, q_cEqS, q_cNeS, q_cEqR, q_cNeR, q_cIsN, q_cIsS, q_cIn, q_cNi, q_cInT, q_cNiT] | rfl))) fun excess21 =>
  (vb_app2 (l := s4) (y := excess21) (s2 := (.lst .frz)) (ps_expr (pe_bm PySem.F.plainAttrs_list PySem.F.slot_list_append PySem.F.type_list_append mt_append (pv 1) (pa_cons (pv 9) pa_nil))) (ps_expr (pe_bm PySem.F.plainAttrs_list PySem.F.slot_list_append PySem.F.type_list_append mt_append (pv 1) (pa_cons (te_lc (own := [("item", 14)]) (g := (gN 14)) lcP rfl nd (vi_list (ve_v (pv 9) rfl)) (blkOk_by (N := ["self", "found", "line", "node", "place", "station", "low", "high", "sign", "excess", "_", "least", "greatest", "condition", "item"]) (sc := defScope s_Island_conditions) (by decide +kernel)) (fun _ _ _ _ _ => (vg_name (pg_name (i := 14) nd rfl (by first | exact Or.inl rfl | exact Or.inr rfl)))) (fun _ => rfl) (fun (v23 : Int) _ _ _ _ _ => vts_nil) (fun (v23 : Int) _ _ _ _ _ => (ve_eq (m' := (R.ok (-v23))) (te_neg (ve_v (pv 14) rfl)) (by rfl)))) pa_nil))) rfl rfl (by decide) (by first | with_reducible rfl | simp only [R.bind_eta, R.bind_assoc, R.okb, R.exb, R.nob, R.map_eq, q_gInt, q_gIntB, q_gLen, q_gLenT, q_gLenN, q_gAbs, q_gMax2, q_gMin2, q_gGcd, q_gSum, q_gAny, q_gAll, q_gList, q_gListT, q_gTuple, q_gSorted, q_gRepr, q_cLt, q_cLe, q_cGt, q_cGe, q_cEq, q_cNe, q_cEqS, q_cNeS, q_cEqR, q_cNeR, q_cIsN, q_cIsS, q_cIn, q_cNi, q_cInT, q_cNiT] | rfl) fun found22 =>
  (vb_nilC (b := found22) rfl (Le.se (Le.se Le.e0 rfl) rfl)))))
  fun s4' => (vb_retO (ps_ret (pv 1)) rfl rfl))))))

abbrev s_conditions_of : Stmt := topS 2
theorem sc_conditions_of : FnScope ["net", "state", "island"] ["net", "state", "island"] (defScope s_conditions_of) := ⟨rfl, rfl, rfl, by decide +kernel, rfl, by decide +kernel, by decide +kernel⟩
theorem ok_conditions_of (B : Bs K mg W) (hW : W.rc.xa = none) (d : Dn K mg "conditions_of" "conditions_of" s_conditions_of ["net", "state", "island"]) (c_Island_init : CalK P w K mg base W "Island" 1 (fun b : ((T4 Int (List (T4 Int Int Int Int)) (List (T4 Int Int Int Bool)) (List (Int × Int))) × (T3 (Tu Int) (Tu Int) (Tu Int)) × (List Int) × Unit) => f_Island_init b.1 b.2.1 b.2.2.1) (zipS ns_Island shs_Island)) (c_Island_conditions : CalM P w K mg base W "Island" "conditions" 4 (fun a : (CIsland × Unit) => f_Island_conditions a.1) (.lst (.lst .frz))) : Cal P w K mg base W "conditions_of" 5 (fun a : ((T4 Int (List (T4 Int Int Int Int)) (List (T4 Int Int Int Bool)) (List (Int × Int))) × (T3 (Tu Int) (Tu Int) (Tu Int)) × (List Int) × Unit) => f_conditions_of a.1 a.2.1 a.2.2.1) (.lst (.lst .frz)) :=
  cal d sc_conditions_of fun fa cdv Ar outer sh H E hr a => by
    have nd := sc_conditions_of.nd
    obtain ⟨net1, state2, island3, _⟩ := a
    exact (show VB (cxOf (L2.CX P w) P w K mg base ["net", "state", "island"] "conditions_of" (defScope s_conditions_of) fa cdv Ar outer sh H E) W (fun _ => E) (argE 0 [en net1, en state2, en island3]) (defBody s_conditions_of) (f_conditions_of net1 state2 island3) (rtOut (.lst (.lst .frz))) from
  (vb_ret0 (ps_ret (ve_eq (m' := ((f_Island_init net1 state2 island3).bind fun x5 => (f_Island_conditions x5))) (ve_meth0 vs_Island c_Island_conditions hr (pass_fn (takes_of rfl rfl rfl rfl)) (ve_frz (ve_make c_Island_init hr (pass_fn (takes_of rfl rfl rfl rfl)) (va_cons (ve_v (pv 0) rfl) (va_cons (ve_v (pv 1) rfl) (va_cons (ve_v (pv 2) rfl) va_nil))))) (fun _ => rfl) (fun _ => rfl) (by decide +kernel)) (by first | with_reducible rfl | simp only [R.bind_eta, R.bind_assoc, R.okb, R.exb, R.nob, R.map_eq, q_gInt, q_gIntB, q_gLen, q_gLenT, q_gLenN, q_gAbs, q_gMax2, q_gMin2, q_gGcd, q_gSum, q_gAny, q_gAll, q_gList, q_gListT, q_gTuple, q_gSorted, q_gRepr, q_cLt, q_cLe, q_cGt, q_cGe, q_cEq, q_cNe, q_cEqS, q_cNeS, q_cEqR, q_cNeR, q_cIsN, q_cIsS, q_cIn, q_cNi, q_cInT, q_cNiT] | rfl)))))

abbrev s_law_cell : Stmt := topS 4
theorem sc_law_cell : FnScope ["_law_script", "_law_k"] ["_law_script", "_law_k"] (defScope s_law_cell) := ⟨rfl, rfl, rfl, by decide +kernel, rfl, by decide +kernel, by decide +kernel⟩
theorem ok_law_cell (B : Bs K mg W) (hW : W.rc.xa = none) (d : Dn K mg "_law_cell" "_law_cell" s_law_cell ["_law_script", "_law_k"])  : Cal P w K mg base W "_law_cell" 1 (fun a : ((List Int) × Int × Unit) => f_law_cell a.1 a.2.1) .frz :=
  cal d sc_law_cell fun fa cdv Ar outer sh H E hr a => by
    have nd := sc_law_cell.nd
    obtain ⟨script1, k2, _⟩ := a
    exact (show VB (cxOf (L2.CX P w) P w K mg base ["_law_script", "_law_k"] "_law_cell" (defScope s_law_cell) fa cdv Ar outer sh H E) W (fun _ => E) (argE 0 [en script1, en k2]) (defBody s_law_cell) (f_law_cell script1 k2) (rtOut .frz) from
  (vb_ifA (vt_eq (t' := (R.ok (decide (k2 < (script1.length : Int))))) (vt_cmp op_lt o2_lt cLt hLt (ve_v (pv 1) rfl) (ve_ca ca_len gLen hLen (pe_callB call_len_seq (by rfl) (B.bi "len" (by decide)) (by decide +kernel) (va_cons (ve_v (pv 0) rfl) va_nil))) (nomark _)) (by rfl))
  (vb_ret0 (ps_ret (ve_eq (m' := ((ixR script1 k2).bind fun x3 => R.ok x3)) (ve_ca ca_int gInt hInt (pe_callTy call_int1 (by rfl) (B.bi "int" (by decide)) (by decide +kernel) (va_cons (te_ixL (ve_v (pv 0) rfl) (ve_v (pv 1) rfl)) va_nil))) (by first | with_reducible rfl | simp only [R.bind_eta, R.bind_assoc, R.okb, R.exb, R.nob, R.map_eq, q_gInt, q_gIntB, q_gLen, q_gLenT, q_gLenN, q_gAbs, q_gMax2, q_gMin2, q_gGcd, q_gSum, q_gAny, q_gAll, q_gList, q_gListT, q_gTuple, q_gSorted, q_gRepr, q_cLt, q_cLe, q_cGt, q_cGe, q_cEq, q_cNe, q_cEqS, q_cNeS, q_cEqR, q_cNeR, q_cIsN, q_cIsS, q_cIn, q_cNi, q_cInT, q_cNiT] | rfl))))
  (vb_retP (x := (0 : Int)) (ps_ret (ve_eq (m' := (R.ok (0 : Int))) ve_int (by rfl))))))

abbrev s_law_draws : Stmt := topS 5
theorem sc_law_draws : FnScope ["_law_cell_here", "_law_limits", "_law_found", "_law_rest", "_law_state_here", "_law_free", "_law_limit"] ["_law_cell_here", "_law_limits"] (defScope s_law_draws) := ⟨rfl, rfl, rfl, by decide +kernel, rfl, by decide +kernel, by decide +kernel⟩
theorem ok_law_draws (B : Bs K mg W) (hW : W.rc.xa = none) (d : Dn K mg "_law_draws" "_law_draws" s_law_draws ["_law_cell_here", "_law_limits"])  : Cal P w K mg base W "_law_draws" 1 (fun a : (Int × (List Int) × Unit) => f_law_draws a.1 a.2.1) (.lst .frz) :=
  cal d sc_law_draws fun fa cdv Ar outer sh H E hr a => by
    have nd := sc_law_draws.nd
    obtain ⟨cell1, limits2, _⟩ := a
    exact (show VB (cxOf (L2.CX P w) P w K mg base ["_law_cell_here", "_law_limits", "_law_found", "_law_rest", "_law_state_here", "_law_free", "_law_limit"] "_law_draws" (defScope s_law_draws) fa cdv Ar outer sh H E) W (fun _ => E) (argE 0 [en cell1, en limits2]) (defBody s_law_draws) (f_law_draws cell1 limits2) (rtOut (.lst .frz)) from
  (vb_setN (ps_set (i := 2) nd rfl (by first | exact Or.inl rfl | exact Or.inr rfl) (ve_eq (m' := (R.ok ([] : List Int))) (ve_lst (s := .frz) (fun (x : (Unit)) => ([] : List Int)) va_nil) (by rfl))) fun found3 =>
  (vb_set (ps_set (i := 3) nd rfl (by first | exact Or.inl rfl | exact Or.inr rfl) (ve_eq (m' := (R.ok (absI cell1))) (ve_ca ca_abs gAbs hAbs (pe_callB call_abs (by rfl) (B.bi "abs" (by decide)) (by decide +kernel) (va_cons (ve_ca ca_int gInt hInt (pe_callTy call_int1 (by rfl) (B.bi "int" (by decide)) (by decide +kernel) (va_cons (ve_v (pv 0) rfl) va_nil))) va_nil))) (by rfl))) fun rest4 =>
  (vb_set (ps_set (i := 4) nd rfl (by first | exact Or.inl rfl | exact Or.inr rfl) (ve_eq (m' := (modR rest4 (2147483647 : Int))) (te_mod (ve_ca ca_int gInt hInt (pe_callTy call_int1 (by rfl) (B.bi "int" (by decide)) (by decide +kernel) (va_cons (ve_v (pv 3) rfl) va_nil))) ve_int) (by first | with_reducible rfl | simp only [R.bind_eta, R.bind_assoc, R.okb, R.exb, R.nob, R.map_eq, q_gInt, q_gIntB, q_gLen, q_gLenT, q_gLenN, q_gAbs, q_gMax2, q_gMin2, q_gGcd, q_gSum, q_gAny, q_gAll, q_gList, q_gListT, q_gTuple, q_gSorted, q_gRepr, q_cLt, q_cLe, q_cGt, q_cGe, q_cEq, q_cNe, q_cEqS, q_cNeS, q_cEqR, q_cNeR, q_cIsN, q_cIsS, q_cIn, q_cNi, q_cInT, q_cNiT] | rfl))) fun state5 =>
  (vb_set (ps_set (i := 5) nd rfl (by first | exact Or.inl rfl | exact Or.inr rfl) (ve_eq (m' := (orR (R.ok (decide (cell1 < (0 : Int)))) ((powR (10 : Int) (18 : Int)).bind fun x6 => R.ok (decide (x6 ≤ cell1))))) (ve_or (ve_eq (m' := (R.ok (decide (cell1 < (0 : Int))))) (ve_cmp op_lt o2_lt cLt hLt (ve_v (pv 0) rfl) ve_int (nomark _)) (by rfl)) (ve_one (ve_eq (m' := ((powR (10 : Int) (18 : Int)).bind fun x6 => R.ok (decide (x6 ≤ cell1)))) (ve_cmp op_ge o2_ge cGe hGe (ve_v (pv 0) rfl) (te_pow ve_int ve_int) (nomark _)) (by first | with_reducible rfl | simp only [R.bind_eta, R.bind_assoc, R.okb, R.exb, R.nob, R.map_eq, q_gInt, q_gIntB, q_gLen, q_gLenT, q_gLenN, q_gAbs, q_gMax2, q_gMin2, q_gGcd, q_gSum, q_gAny, q_gAll, q_gList, q_gListT, q_gTuple, q_gSorted, q_gRepr, q_cLt, q_cLe, q_cGt, q_cGe, q_cEq, q_cNe, q_cEqS, q_cNeS, q_cEqR, q_cNeR, q_cIsN, q_cIsS, q_cIn, q_cNi, q_cInT, q_cNiT] | rfl)))) (by first | with_reducible rfl | simp only [R.bind_eta, R.bind_assoc, R.okb, R.exb, R.nob, R.map_eq, q_gInt, q_gIntB, q_gLen, q_gLenT, q_gLenN, q_gAbs, q_gMax2, q_gMin2, q_gGcd, q_gSum, q_gAny, q_gAll, q_gList, q_gListT, q_gTuple, q_gSorted, q_gRepr, q_cLt, q_cLe, q_cGt, q_cGe, q_cEq, q_cNe, q_cEqS, q_cNeS, q_cEqR, q_cNeR, q_cIsN, q_cIsS, q_cIn, q_cNi, q_cInT, q_cNiT] | rfl))) fun free7 =>
  (tb_for (f := (f_law_draws_l1 free7)) (e := (fun s1 : ((List Int) × Int × Int) => (se (se (se (se e0 2 (.vl (.ow (.lst .frz) none) (en s1.1))) 3 (.vl .fz (en s1.2.1))) 4 (.vl .fz (en s1.2.2))) 5 (.vl .fz (en free7))))) (s0 := (found3, rest4, state5)) (g := (gN 6)) (fun _ _ => rfl) (passes_of rfl) rfl (vi_eqm (m' := (R.ok limits2)) (vi_list (ve_v (pv 1) rfl)) (by rfl)) (vg_name (pg_name (i := 6) nd rfl (by first | exact Or.inl rfl | exact Or.inr rfl))) (Le.se (Le.se (Le.se (Le.se Le.e0 rfl) rfl) rfl) rfl)
  (fun x1_ s1 => (vb_if (vt_w (vw_andP (vt_eq (t' := (R.ok free7)) (vt_val (ve_v (pv 5) rfl)) (by rfl)) (vw_and1 (vt_eq (t' := (R.ok (decide ((1 : Int) < s1.2.1)))) (vt_cmp op_gt o2_gt cGt hGt (ve_v (pv 3) rfl) ve_int (nomark _)) (by rfl)))))
  (tb_app (a := s1.1) (s2 := .frz) (ps_expr (pe_bm PySem.F.plainAttrs_list PySem.F.slot_list_append PySem.F.type_list_append mt_append (vp_v (pv 2)) (pa_cons (te_mod (ve_ca ca_int gInt hInt (pe_callTy call_int1 (by rfl) (B.bi "int" (by decide)) (by decide +kernel) (va_cons (ve_v (pv 3) rfl) va_nil))) (ve_v (pv 6) rfl)) pa_nil))) (by first | with_reducible rfl | simp only [R.bind_eta, R.bind_assoc, R.okb, R.exb, R.nob, R.map_eq, q_gInt, q_gIntB, q_gLen, q_gLenT, q_gLenN, q_gAbs, q_gMax2, q_gMin2, q_gGcd, q_gSum, q_gAny, q_gAll, q_gList, q_gListT, q_gTuple, q_gSorted, q_gRepr, q_cLt, q_cLe, q_cGt, q_cGe, q_cEq, q_cNe, q_cEqS, q_cNeS, q_cEqR, q_cNeR, q_cIsN, q_cIsS, q_cIn, q_cNi, q_cInT, q_cNiT] | rfl) fun found9 =>
  (vb_set (ps_set (i := 3) nd rfl (by first | exact Or.inl rfl | exact Or.inr rfl) (ve_eq (m' := (divR s1.2.1 x1_)) (te_div (ve_v (pv 3) rfl) (ve_v (pv 6) rfl)) (by first | with_reducible rfl | simp only [R.bind_eta, R.bind_assoc, R.okb, R.exb, R.nob, R.map_eq, q_gInt, q_gIntB, q_gLen, q_gLenT, q_gLenN, q_gAbs, q_gMax2, q_gMin2, q_gGcd, q_gSum, q_gAny, q_gAll, q_gList, q_gListT, q_gTuple, q_gSorted, q_gRepr, q_cLt, q_cLe, q_cGt, q_cGe, q_cEq, q_cNe, q_cEqS, q_cNeS, q_cEqR, q_cNeR, q_cIsN, q_cIsS, q_cIn, q_cNi, q_cInT, q_cNiT] | rfl))) fun rest10 =>
  (vb_nilC (b := (found9, rest10, s1.2.2)) rfl (Le.se (Le.se (Le.se (Le.se Le.e0 rfl) rfl) rfl) rfl))))
  (vb_set (ps_set (i := 4) nd rfl (by first | exact Or.inl rfl | exact Or.inr rfl) (ve_eq (m' := ((((mulR s1.2.2 (48271 : Int)).bind fun x12 => R.ok (x12 + (11 : Int))).bind fun x13 => R.ok x13).bind fun x14 => (modR x14 (2147483647 : Int)))) (te_mod (ve_ca ca_int gInt hInt (pe_callTy call_int1 (by rfl) (B.bi "int" (by decide)) (by decide +kernel) (va_cons (te_add (te_mul (ve_v (pv 4) rfl) ve_int) ve_int) va_nil))) ve_int) (by first | with_reducible rfl | simp only [R.bind_eta, R.bind_assoc, R.okb, R.exb, R.nob, R.map_eq, q_gInt, q_gIntB, q_gLen, q_gLenT, q_gLenN, q_gAbs, q_gMax2, q_gMin2, q_gGcd, q_gSum, q_gAny, q_gAll, q_gList, q_gListT, q_gTuple, q_gSorted, q_gRepr, q_cLt, q_cLe, q_cGt, q_cGe, q_cEq, q_cNe, q_cEqS, q_cNeS, q_cEqR, q_cNeR, q_cIsN, q_cIsS, q_cIn, q_cNi, q_cInT, q_cNiT] | rfl))) fun state15 =>
  (vb_set (ps_set (i := 4) nd rfl (by first | exact Or.inl rfl | exact Or.inr rfl) (ve_eq (m' := ((((mulR state15 (69621 : Int)).bind fun x16 => R.ok (x16 + (7 : Int))).bind fun x17 => R.ok x17).bind fun x18 => (modR x18 (2147483647 : Int)))) (te_mod (ve_ca ca_int gInt hInt (pe_callTy call_int1 (by rfl) (B.bi "int" (by decide)) (by decide +kernel) (va_cons (te_add (te_mul (ve_v (pv 4) rfl) ve_int) ve_int) va_nil))) ve_int) (by first | with_reducible rfl | simp only [R.bind_eta, R.bind_assoc, R.okb, R.exb, R.nob, R.map_eq, q_gInt, q_gIntB, q_gLen, q_gLenT, q_gLenN, q_gAbs, q_gMax2, q_gMin2, q_gGcd, q_gSum, q_gAny, q_gAll, q_gList, q_gListT, q_gTuple, q_gSorted, q_gRepr, q_cLt, q_cLe, q_cGt, q_cGe, q_cEq, q_cNe, q_cEqS, q_cNeS, q_cEqR, q_cNeR, q_cIsN, q_cIsS, q_cIn, q_cNi, q_cInT, q_cNiT] | rfl))) fun state19 =>
  (tb_app (a := s1.1) (s2 := .frz) (ps_expr (pe_bm PySem.F.plainAttrs_list PySem.F.slot_list_append PySem.F.type_list_append mt_append (vp_v (pv 2)) (pa_cons (te_mod (ve_ca ca_int gInt hInt (pe_callTy call_int1 (by rfl) (B.bi "int" (by decide)) (by decide +kernel) (va_cons (te_div (ve_v (pv 4) rfl) ve_int) va_nil))) (ve_v (pv 6) rfl)) pa_nil))) (by first | with_reducible rfl | simp only [R.bind_eta, R.bind_assoc, R.okb, R.exb, R.nob, R.map_eq, q_gInt, q_gIntB, q_gLen, q_gLenT, q_gLenN, q_gAbs, q_gMax2, q_gMin2, q_gGcd, q_gSum, q_gAny, q_gAll, q_gList, q_gListT, q_gTuple, q_gSorted, q_gRepr, q_cLt, q_cLe, q_cGt, q_cGe, q_cEq, q_cNe, q_cEqS, q_cNeS, q_cEqR, q_cNeR, q_cIsN, q_cIsS, q_cIn, q_cNi, q_cInT, q_cNiT] | rfl) fun found22 =>
  (vb_nilC (b := (found22, s1.2.1, state19)) rfl (Le.se (Le.se (Le.se (Le.se Le.e0 rfl) rfl) rfl) rfl)))))))
  fun s1' => (vb_retO (ps_ret (pv 2)) rfl rfl)))))))

abbrev s_law_net : Stmt := topS 6
theorem sc_law_net : FnScope ["_law_cell_here", "_law_more", "_law_most", "_law_draws_here", "_law_nodes", "_law_wide", "_law_lines_here", "_law_parts", "_law_k", "_law_stations_here", "_law_loads", "_law_part", "_law_pair", "_law_low", "_law_high"] ["_law_cell_here", "_law_more", "_law_most"] (defScope s_law_net) := ⟨rfl, rfl, rfl, by decide +kernel, rfl, by decide +kernel, by decide +kernel⟩
theorem ok_law_net (B : Bs K mg W) (hW : W.rc.xa = none) (d : Dn K mg "_law_net" "_law_net" s_law_net ["_law_cell_here", "_law_more", "_law_most"]) (c_law_draws : Cal P w K mg base W "_law_draws" 1 (fun a : (Int × (List Int) × Unit) => f_law_draws a.1 a.2.1) (.lst .frz)) : Cal P w K mg base W "_law_net" 2 (fun a : (Int × Int × Int × Unit) => f_law_net a.1 a.2.1 a.2.2.1) .frz :=
  cal d sc_law_net fun fa cdv Ar outer sh H E hr a => by
    have nd := sc_law_net.nd
    obtain ⟨cell1, more2, most3, _⟩ := a
    exact (show VB (cxOf (L2.CX P w) P w K mg base ["_law_cell_here", "_law_more", "_law_most", "_law_draws_here", "_law_nodes", "_law_wide", "_law_lines_here", "_law_parts", "_law_k", "_law_stations_here", "_law_loads", "_law_part", "_law_pair", "_law_low", "_law_high"] "_law_net" (defScope s_law_net) fa cdv Ar outer sh H E) W (fun _ => E) (argE 0 [en cell1, en more2, en most3]) (defBody s_law_net) (f_law_net cell1 more2 most3) (rtOut .frz) from
  (vb_set (ps_set (i := 3) nd rfl (by first | exact Or.inl rfl | exact Or.inr rfl) (ve_eq (m' := (f_law_draws cell1 ([most3, (7 : Int), (4 : Int), (4 : Int), (3 : Int)] : List Int))) (ve_frz (ve_call c_law_draws hr (pass_fn (takes_of rfl rfl rfl rfl)) (va_cons (ve_v (pv 0) rfl) (va_cons (ve_frz (ve_lst (s := .frz) (fun (x : (Int × Int × Int × Int × Int × Unit)) => ([x.1, x.2.1, x.2.2.1, x.2.2.2.1, x.2.2.2.2.1] : List Int)) (va_cons (ve_v (pv 2) rfl) (va_cons ve_int (va_cons ve_int (va_cons ve_int (va_cons ve_int va_nil))))))) va_nil)))) (by first | with_reducible rfl | simp only [R.bind_eta, R.bind_assoc, R.okb, R.exb, R.nob, R.map_eq, q_gInt, q_gIntB, q_gLen, q_gLenT, q_gLenN, q_gAbs, q_gMax2, q_gMin2, q_gGcd, q_gSum, q_gAny, q_gAll, q_gList, q_gListT, q_gTuple, q_gSorted, q_gRepr, q_cLt, q_cLe, q_cGt, q_cGe, q_cEq, q_cNe, q_cEqS, q_cNeS, q_cEqR, q_cNeR, q_cIsN, q_cIsS, q_cIn, q_cNi, q_cInT, q_cNiT] | rfl))) fun draws4 =>
  (vb_set (ps_set (i := 4) nd rfl (by first | exact Or.inl rfl | exact Or.inr rfl) (ve_eq (m' := ((ixR draws4 (0 : Int)).bind fun x5 => R.ok ((1 : Int) + x5))) (te_add ve_int (te_ixL (ve_v (pv 3) rfl) ve_int)) (by first | with_reducible rfl | simp only [R.bind_eta, R.bind_assoc, R.okb, R.exb, R.nob, R.map_eq, q_gInt, q_gIntB, q_gLen, q_gLenT, q_gLenN, q_gAbs, q_gMax2, q_gMin2, q_gGcd, q_gSum, q_gAny, q_gAll, q_gList, q_gListT, q_gTuple, q_gSorted, q_gRepr, q_cLt, q_cLe, q_cGt, q_cGe, q_cEq, q_cNe, q_cEqS, q_cNeS, q_cEqR, q_cNeR, q_cIsN, q_cIsS, q_cIn, q_cNi, q_cInT, q_cNiT] | rfl))) fun nodes6 =>
  (vb_set (ps_set (i := 5) nd rfl (by first | exact Or.inl rfl | exact Or.inr rfl) (ve_eq (m' := ((ixR draws4 (4 : Int)).bind fun x7 => R.ok (decide (x7 = (0 : Int))))) (ve_cmp (op_eqA hr.room.units) o2_eq cEq (hEq) (te_ixL (ve_v (pv 3) rfl) ve_int) ve_int (nomark _)) (by first | with_reducible rfl | simp only [R.bind_eta, R.bind_assoc, R.okb, R.exb, R.nob, R.map_eq, q_gInt, q_gIntB, q_gLen, q_gLenT, q_gLenN, q_gAbs, q_gMax2, q_gMin2, q_gGcd, q_gSum, q_gAny, q_gAll, q_gList, q_gListT, q_gTuple, q_gSorted, q_gRepr, q_cLt, q_cLe, q_cGt, q_cGe, q_cEq, q_cNe, q_cEqS, q_cNeS, q_cEqR, q_cNeR, q_cIsN, q_cIsS, q_cIn, q_cNi, q_cInT, q_cNiT] | rfl))) fun wide8 =>
  (vb_setN (ps_set (i := 6) nd rfl (by first | exact Or.inl rfl | exact Or.inr rfl) (ve_eq (m' := (R.ok ([] : List (T4 Int Int Int Int)))) (ve_lst (s := .frz) (fun (x : (Unit)) => ([] : List (T4 Int Int Int Int))) va_nil) (by rfl))) fun lines9 =>
  (vb_set (ps_set (i := 7) nd rfl (by first | exact Or.inl rfl | exact Or.inr rfl) (ve_eq (m' := ((((powR (10 : Int) (6 : Int)).bind fun x10 => R.ok ([x10] : List Int)).bind fun x11 => (repR x11 (15 : Int))).bind fun x12 => (f_law_draws more2 x12))) (ve_frz (ve_call c_law_draws hr (pass_fn (takes_of rfl rfl rfl rfl)) (va_cons (ve_v (pv 1) rfl) (va_cons (ve_frz (te_rep (ve_frz (ve_lst (s := .frz) (fun (x : (Int × Unit)) => ([x.1] : List Int)) (va_cons (te_pow ve_int ve_int) va_nil))) ve_int)) va_nil)))) (by first | with_reducible rfl | simp only [R.bind_eta, R.bind_assoc, R.okb, R.exb, R.nob, R.map_eq, q_gInt, q_gIntB, q_gLen, q_gLenT, q_gLenN, q_gAbs, q_gMax2, q_gMin2, q_gGcd, q_gSum, q_gAny, q_gAll, q_gList, q_gListT, q_gTuple, q_gSorted, q_gRepr, q_cLt, q_cLe, q_cGt, q_cGe, q_cEq, q_cNe, q_cEqS, q_cNeS, q_cEqR, q_cNeR, q_cIsN, q_cIsS, q_cIn, q_cNi, q_cInT, q_cNiT] | rfl))) fun parts13 =>
  (tb_for (f := (f_law_net_l1 draws4 nodes6 wide8 parts13)) (e := (fun s1 : (List (T4 Int Int Int Int)) => (se (se (se (se (se e0 3 (.vl .fz (en draws4))) 4 (.vl .fz (en nodes6))) 5 (.vl .fz (en wide8))) 6 (.vl (.ow (.lst .frz) none) (en s1))) 7 (.vl .fz (en parts13))))) (s0 := lines9) (g := (gN 8)) (fun _ _ => rfl) (passes_of rfl) rfl (vi_eqm (m' := ((ixR draws4 (1 : Int)).bind fun x14 => (rng1 x14))) (vi_rng1 (by rfl) (B.bi "range" (by decide)) (va_cons (te_ixL (ve_v (pv 3) rfl) ve_int) va_nil)) (by first | with_reducible rfl | simp only [R.bind_eta, R.bind_assoc, R.okb, R.exb, R.nob, R.map_eq, q_gInt, q_gIntB, q_gLen, q_gLenT, q_gLenN, q_gAbs, q_gMax2, q_gMin2, q_gGcd, q_gSum, q_gAny, q_gAll, q_gList, q_gListT, q_gTuple, q_gSorted, q_gRepr, q_cLt, q_cLe, q_cGt, q_cGe, q_cEq, q_cNe, q_cEqS, q_cNeS, q_cEqR, q_cNeR, q_cIsN, q_cIsS, q_cIn, q_cNi, q_cInT, q_cNiT] | rfl)) (vg_name (pg_name (i := 8) nd rfl (by first | exact Or.inl rfl | exact Or.inr rfl))) (Le.se (Le.se (Le.se (Le.se (Le.se Le.e0 rfl) rfl) rfl) rfl) rfl)
  (fun x1_ s1 => (vb_set (ps_set (i := 11) nd rfl (by first | exact Or.inl rfl | exact Or.inr rfl) (ve_eq (m' := ((ixR parts13 x1_).bind fun x19 => (f_law_draws x19 ([nodes6, nodes6, (3 : Int), (12 : Int), (1000 : Int), (1001 : Int)] : List Int)))) (ve_frz (ve_call c_law_draws hr (pass_fn (takes_of rfl rfl rfl rfl)) (va_cons (te_ixL (ve_v (pv 7) rfl) (ve_v (pv 8) rfl)) (va_cons (ve_frz (ve_lst (s := .frz) (fun (x : (Int × Int × Int × Int × Int × Int × Unit)) => ([x.1, x.2.1, x.2.2.1, x.2.2.2.1, x.2.2.2.2.1, x.2.2.2.2.2.1] : List Int)) (va_cons (ve_v (pv 4) rfl) (va_cons (ve_v (pv 4) rfl) (va_cons ve_int (va_cons ve_int (va_cons ve_int (va_cons ve_int va_nil)))))))) va_nil)))) (by first | with_reducible rfl | simp only [R.bind_eta, R.bind_assoc, R.okb, R.exb, R.nob, R.map_eq, q_gInt, q_gIntB, q_gLen, q_gLenT, q_gLenN, q_gAbs, q_gMax2, q_gMin2, q_gGcd, q_gSum, q_gAny, q_gAll, q_gList, q_gListT, q_gTuple, q_gSorted, q_gRepr, q_cLt, q_cLe, q_cGt, q_cGe, q_cEq, q_cNe, q_cEqS, q_cNeS, q_cEqR, q_cNeR, q_cIsN, q_cIsS, q_cIn, q_cNi, q_cInT, q_cNiT] | rfl))) fun part20 =>
  (vb_if (vt_eq (t' := ((ixR part20 (0 : Int)).bind fun x21 => (ixR part20 (1 : Int)).bind fun x22 => R.ok (decide (x21 ≠ x22)))) (vt_cmp (op_neA hr.room.units) o2_ne cNe (hNe) (te_ixL (ve_v (pv 11) rfl) ve_int) (te_ixL (ve_v (pv 11) rfl) ve_int) (nomark _)) (by first | with_reducible rfl | simp only [R.bind_eta, R.bind_assoc, R.okb, R.exb, R.nob, R.map_eq, q_gInt, q_gIntB, q_gLen, q_gLenT, q_gLenN, q_gAbs, q_gMax2, q_gMin2, q_gGcd, q_gSum, q_gAny, q_gAll, q_gList, q_gListT, q_gTuple, q_gSorted, q_gRepr, q_cLt, q_cLe, q_cGt, q_cGe, q_cEq, q_cNe, q_cEqS, q_cNeS, q_cEqR, q_cNeR, q_cIsN, q_cIsS, q_cIn, q_cNi, q_cInT, q_cNiT] | rfl))
  (vb_set (ps_set (i := 12) nd rfl (by first | exact Or.inl rfl | exact Or.inr rfl) (ve_eq (m' := (((ixR part20 (0 : Int)).bind fun x23 => (ixR part20 (1 : Int)).bind fun x24 => R.ok (min2 x23 x24)).bind fun x27 => ((ixR part20 (0 : Int)).bind fun x25 => (ixR part20 (1 : Int)).bind fun x26 => R.ok (max2 x25 x26)).bind fun x28 => R.ok (x27, x28))) (ve_frz (ve_tup (s := .frz) (fun (x : (Int × Int × Unit)) => ((x.1, x.2.1) : (Int × Int))) (va_cons (ve_ca ca_min2 gMin2 hMin2 (pe_callB (call_min2 rfl) (by rfl) (B.bi "min" (by decide)) (by decide +kernel) (va_cons (te_ixL (ve_v (pv 11) rfl) ve_int) (va_cons (te_ixL (ve_v (pv 11) rfl) ve_int) va_nil)))) (va_cons (ve_ca ca_max2 gMax2 hMax2 (pe_callB (call_max2 rfl) (by rfl) (B.bi "max" (by decide)) (by decide +kernel) (va_cons (te_ixL (ve_v (pv 11) rfl) ve_int) (va_cons (te_ixL (ve_v (pv 11) rfl) ve_int) va_nil)))) va_nil)))) (by first | with_reducible rfl | simp only [R.bind_eta, R.bind_assoc, R.okb, R.exb, R.nob, R.map_eq, q_gInt, q_gIntB, q_gLen, q_gLenT, q_gLenN, q_gAbs, q_gMax2, q_gMin2, q_gGcd, q_gSum, q_gAny, q_gAll, q_gList, q_gListT, q_gTuple, q_gSorted, q_gRepr, q_cLt, q_cLe, q_cGt, q_cGe, q_cEq, q_cNe, q_cEqS, q_cNeS, q_cEqR, q_cNeR, q_cIsN, q_cIsS, q_cIn, q_cNi, q_cInT, q_cNiT] | rfl))) fun pair29 =>
  (tb_app (a := s1) (s2 := .frz) (ps_expr (pe_bm PySem.F.plainAttrs_list PySem.F.slot_list_append PySem.F.type_list_append mt_append (vp_v (pv 6)) (pa_cons (te_catT (fun (x : (Int × Int)) (y : (Int × Int)) => (T4.mk (x.1) (x.2) (y.1) (y.2))) (ve_v (pv 12) rfl) (te_ixL (ve_frz (ve_lst (s := .frz) (fun (x : ((Int × Int) × (Int × Int) × Unit)) => ([x.1, x.2.1] : List (Int × Int))) (va_cons (ve_frz (ve_tup (s := .frz) (fun (x : (Int × Int × Unit)) => ((x.1, x.2.1) : (Int × Int))) (va_cons (te_add ve_int (te_ixL (ve_v (pv 11) rfl) ve_int)) (va_cons (te_ixL (ve_v (pv 11) rfl) ve_int) va_nil)))) (va_cons (ve_frz (ve_tup (s := .frz) (fun (x : (Int × Int × Unit)) => ((x.1, x.2.1) : (Int × Int))) (va_cons (te_add ve_int (te_ixL (ve_v (pv 11) rfl) ve_int)) (va_cons (te_ixL (ve_v (pv 11) rfl) ve_int) va_nil)))) va_nil)))) (ve_ca ca_int gIntB hIntB (pe_callTy call_int1 (by rfl) (B.bi "int" (by decide)) (by decide +kernel) (va_cons (ve_v (pv 5) rfl) va_nil)))) (fun _ _ => rfl)) pa_nil))) (by first | with_reducible rfl | simp only [R.bind_eta, R.bind_assoc, R.okb, R.exb, R.nob, R.map_eq, q_gInt, q_gIntB, q_gLen, q_gLenT, q_gLenN, q_gAbs, q_gMax2, q_gMin2, q_gGcd, q_gSum, q_gAny, q_gAll, q_gList, q_gListT, q_gTuple, q_gSorted, q_gRepr, q_cLt, q_cLe, q_cGt, q_cGe, q_cEq, q_cNe, q_cEqS, q_cNeS, q_cEqR, q_cNeR, q_cIsN, q_cIsS, q_cIn, q_cNi, q_cInT, q_cNiT] | rfl) fun lines46 =>
  (vb_nilC (b := lines46) rfl (Le.se (Le.se (Le.se (Le.se (Le.se Le.e0 rfl) rfl) rfl) rfl) rfl))))
  (vb_nilC (b := s1) rfl (Le.se (Le.se (Le.se (Le.se (Le.se Le.e0 rfl) rfl) rfl) rfl) rfl)))))
  fun s1' => (vb_setN (ps_set (i := 9) nd rfl (by first | exact Or.inl rfl | exact Or.inr rfl) (ve_eq (m' := (R.ok ([] : List (T4 Int Int Int Bool)))) (ve_lst (s := .frz) (fun (x : (Unit)) => ([] : List (T4 Int Int Int Bool))) va_nil) (by rfl))) fun stations48 =>
  (tb_for (f := (f_law_net_l2 draws4 nodes6 wide8 (s1') parts13)) (e := (fun s2 : (List (T4 Int Int Int Bool)) => (se (se (se (se (se (se e0 3 (.vl .fz (en draws4))) 4 (.vl .fz (en nodes6))) 5 (.vl .fz (en wide8))) 6 (.vl (.ow (.lst .frz) none) (en s1'))) 7 (.vl .fz (en parts13))) 9 (.vl (.ow (.lst .frz) none) (en s2))))) (s0 := stations48) (g := (gN 8)) (fun _ _ => rfl) (passes_of rfl) rfl (vi_eqm (m' := ((ixR draws4 (2 : Int)).bind fun x49 => (rng1 x49))) (vi_rng1 (by rfl) (B.bi "range" (by decide)) (va_cons (te_ixL (ve_v (pv 3) rfl) ve_int) va_nil)) (by first | with_reducible rfl | simp only [R.bind_eta, R.bind_assoc, R.okb, R.exb, R.nob, R.map_eq, q_gInt, q_gIntB, q_gLen, q_gLenT, q_gLenN, q_gAbs, q_gMax2, q_gMin2, q_gGcd, q_gSum, q_gAny, q_gAll, q_gList, q_gListT, q_gTuple, q_gSorted, q_gRepr, q_cLt, q_cLe, q_cGt, q_cGe, q_cEq, q_cNe, q_cEqS, q_cNeS, q_cEqR, q_cNeR, q_cIsN, q_cIsS, q_cIn, q_cNi, q_cInT, q_cNiT] | rfl)) (vg_name (pg_name (i := 8) nd rfl (by first | exact Or.inl rfl | exact Or.inr rfl))) (Le.se (Le.se (Le.se (Le.se (Le.se (Le.se Le.e0 rfl) rfl) rfl) rfl) rfl) rfl)
  (fun x2_ s2 => (vb_set (ps_set (i := 11) nd rfl (by first | exact Or.inl rfl | exact Or.inr rfl) (ve_eq (m' := ((ixR parts13 ((7 : Int) + x2_)).bind fun x55 => (f_law_draws x55 ([nodes6, (6 : Int), (12 : Int), (3 : Int), (1001 : Int), (1001 : Int)] : List Int)))) (ve_frz (ve_call c_law_draws hr (pass_fn (takes_of rfl rfl rfl rfl)) (va_cons (te_ixL (ve_v (pv 7) rfl) (te_add ve_int (ve_v (pv 8) rfl))) (va_cons (ve_frz (ve_lst (s := .frz) (fun (x : (Int × Int × Int × Int × Int × Int × Unit)) => ([x.1, x.2.1, x.2.2.1, x.2.2.2.1, x.2.2.2.2.1, x.2.2.2.2.2.1] : List Int)) (va_cons (ve_v (pv 4) rfl) (va_cons ve_int (va_cons ve_int (va_cons ve_int (va_cons ve_int (va_cons ve_int va_nil)))))))) va_nil)))) (by first | with_reducible rfl | simp only [R.bind_eta, R.bind_assoc, R.okb, R.exb, R.nob, R.map_eq, q_gInt, q_gIntB, q_gLen, q_gLenT, q_gLenN, q_gAbs, q_gMax2, q_gMin2, q_gGcd, q_gSum, q_gAny, q_gAll, q_gList, q_gListT, q_gTuple, q_gSorted, q_gRepr, q_cLt, q_cLe, q_cGt, q_cGe, q_cEq, q_cNe, q_cEqS, q_cNeS, q_cEqR, q_cNeR, q_cIsN, q_cIsS, q_cIn, q_cNi, q_cInT, q_cNiT] | rfl))) fun part56 =>
  (tb_asg (P := fun _ => true) (g := (gT 2 (gsC (gN 13) (gsC (gN 14) gsN)))) (fun a80 => rfl) (ps_asg (ve_eq (m' := ((((ixR part56 (1 : Int)).bind fun x69 => ((ixR part56 (1 : Int)).bind fun x67 => (ixR part56 (2 : Int)).bind fun x68 => R.ok (x67 + x68)).bind fun x70 => R.ok (x69, x70)).bind fun x77 => (((ixR part56 (4 : Int)).bind fun x71 => (ixR part56 (5 : Int)).bind fun x72 => R.ok (min2 x71 x72)).bind fun x75 => ((ixR part56 (4 : Int)).bind fun x73 => (ixR part56 (5 : Int)).bind fun x74 => R.ok (max2 x73 x74)).bind fun x76 => R.ok (x75, x76)).bind fun x78 => R.ok ([x77, x78] : List (Int × Int))).bind fun x79 => (ixR x79 (if wide8 then (1 : Int) else 0)))) (te_ixL (ve_frz (ve_lst (s := .frz) (fun (x : ((Int × Int) × (Int × Int) × Unit)) => ([x.1, x.2.1] : List (Int × Int))) (va_cons (ve_frz (ve_tup (s := .frz) (fun (x : (Int × Int × Unit)) => ((x.1, x.2.1) : (Int × Int))) (va_cons (te_ixL (ve_v (pv 11) rfl) ve_int) (va_cons (te_add (te_ixL (ve_v (pv 11) rfl) ve_int) (te_ixL (ve_v (pv 11) rfl) ve_int)) va_nil)))) (va_cons (ve_frz (ve_tup (s := .frz) (fun (x : (Int × Int × Unit)) => ((x.1, x.2.1) : (Int × Int))) (va_cons (ve_ca ca_min2 gMin2 hMin2 (pe_callB (call_min2 rfl) (by rfl) (B.bi "min" (by decide)) (by decide +kernel) (va_cons (te_ixL (ve_v (pv 11) rfl) ve_int) (va_cons (te_ixL (ve_v (pv 11) rfl) ve_int) va_nil)))) (va_cons (ve_ca ca_max2 gMax2 hMax2 (pe_callB (call_max2 rfl) (by rfl) (B.bi "max" (by decide)) (by decide +kernel) (va_cons (te_ixL (ve_v (pv 11) rfl) ve_int) (va_cons (te_ixL (ve_v (pv 11) rfl) ve_int) va_nil)))) va_nil)))) va_nil)))) (ve_ca ca_int gIntB hIntB (pe_callTy call_int1 (by rfl) (B.bi "int" (by decide)) (by decide +kernel) (va_cons (ve_v (pv 5) rfl) va_nil)))) (by first | with_reducible rfl | simp only [R.bind_eta, R.bind_assoc, R.okb, R.exb, R.nob, R.map_eq, q_gInt, q_gIntB, q_gLen, q_gLenT, q_gLenN, q_gAbs, q_gMax2, q_gMin2, q_gGcd, q_gSum, q_gAny, q_gAll, q_gList, q_gListT, q_gTuple, q_gSorted, q_gRepr, q_cLt, q_cLe, q_cGt, q_cGe, q_cEq, q_cNe, q_cEqS, q_cNeS, q_cEqR, q_cNeR, q_cIsN, q_cIsS, q_cIn, q_cNi, q_cInT, q_cNiT] | rfl)) (vg_tup rfl (vgs_cons (vg_name (pg_name (i := 13) nd rfl (by first | exact Or.inl rfl | exact Or.inr rfl))) (vgs_cons (vg_name (pg_name (i := 14) nd rfl (by first | exact Or.inl rfl | exact Or.inr rfl))) vgs_nil)))) fun a80 =>
  (tb_app (a := s2) (s2 := .frz) (ps_expr (pe_bm PySem.F.plainAttrs_list PySem.F.slot_list_append PySem.F.type_list_append mt_append (vp_v (pv 9)) (pa_cons (ve_frz (ve_tup (s := .frz) (fun (x : (Int × Int × Int × Bool × Unit)) => ((T4.mk (x.1) (x.2.1) (x.2.2.1) (x.2.2.2.1)) : (T4 Int Int Int Bool))) (va_cons (te_ixL (ve_v (pv 11) rfl) ve_int) (va_cons (ve_v (pv 13) rfl) (va_cons (ve_v (pv 14) rfl) (va_cons (ve_cmp op_gt o2_gt cGt hGt (te_ixL (ve_v (pv 11) rfl) ve_int) ve_int (nomark _)) va_nil)))))) pa_nil))) (by first | with_reducible rfl | simp only [R.bind_eta, R.bind_assoc, R.okb, R.exb, R.nob, R.map_eq, q_gInt, q_gIntB, q_gLen, q_gLenT, q_gLenN, q_gAbs, q_gMax2, q_gMin2, q_gGcd, q_gSum, q_gAny, q_gAll, q_gList, q_gListT, q_gTuple, q_gSorted, q_gRepr, q_cLt, q_cLe, q_cGt, q_cGe, q_cEq, q_cNe, q_cEqS, q_cNeS, q_cEqR, q_cNeR, q_cIsN, q_cIsS, q_cIn, q_cNi, q_cInT, q_cNiT] | rfl) fun stations84 =>
  (vb_nilC (b := stations84) rfl (Le.se (Le.se (Le.se (Le.se (Le.se (Le.se Le.e0 rfl) rfl) rfl) rfl) rfl) rfl))))))
  fun s2' => (vb_setN (ps_set (i := 10) nd rfl (by first | exact Or.inl rfl | exact Or.inr rfl) (ve_eq (m' := (R.ok ([] : List (Int × Int)))) (ve_lst (s := .frz) (fun (x : (Unit)) => ([] : List (Int × Int))) va_nil) (by rfl))) fun loads86 =>
  (tb_for (f := (f_law_net_l3 nodes6 wide8 (s1') parts13 (s2'))) (e := (fun s3 : (List (Int × Int)) => (se (se (se (se (se (se e0 4 (.vl .fz (en nodes6))) 5 (.vl .fz (en wide8))) 6 (.vl (.ow (.lst .frz) none) (en s1'))) 7 (.vl .fz (en parts13))) 9 (.vl (.ow (.lst .frz) none) (en s2'))) 10 (.vl (.ow (.lst .frz) none) (en s3))))) (s0 := loads86) (g := (gN 8)) (fun _ _ => rfl) (passes_of rfl) rfl (vi_eqm (m' := ((ixR draws4 (3 : Int)).bind fun x87 => (rng1 x87))) (vi_rng1 (by rfl) (B.bi "range" (by decide)) (va_cons (te_ixL (ve_v (pv 3) rfl) ve_int) va_nil)) (by first | with_reducible rfl | simp only [R.bind_eta, R.bind_assoc, R.okb, R.exb, R.nob, R.map_eq, q_gInt, q_gIntB, q_gLen, q_gLenT, q_gLenN, q_gAbs, q_gMax2, q_gMin2, q_gGcd, q_gSum, q_gAny, q_gAll, q_gList, q_gListT, q_gTuple, q_gSorted, q_gRepr, q_cLt, q_cLe, q_cGt, q_cGe, q_cEq, q_cNe, q_cEqS, q_cNeS, q_cEqR, q_cNeR, q_cIsN, q_cIsS, q_cIn, q_cNi, q_cInT, q_cNiT] | rfl)) (vg_name (pg_name (i := 8) nd rfl (by first | exact Or.inl rfl | exact Or.inr rfl))) (Le.se (Le.se (Le.se (Le.se (Le.se (Le.se Le.e0 rfl) rfl) rfl) rfl) rfl) rfl)
  (fun x3_ s3 => (vb_set (ps_set (i := 11) nd rfl (by first | exact Or.inl rfl | exact Or.inr rfl) (ve_eq (m' := ((ixR parts13 ((11 : Int) + x3_)).bind fun x93 => (f_law_draws x93 ([nodes6, (9 : Int), (1000 : Int)] : List Int)))) (ve_frz (ve_call c_law_draws hr (pass_fn (takes_of rfl rfl rfl rfl)) (va_cons (te_ixL (ve_v (pv 7) rfl) (te_add ve_int (ve_v (pv 8) rfl))) (va_cons (ve_frz (ve_lst (s := .frz) (fun (x : (Int × Int × Int × Unit)) => ([x.1, x.2.1, x.2.2.1] : List Int)) (va_cons (ve_v (pv 4) rfl) (va_cons ve_int (va_cons ve_int va_nil))))) va_nil)))) (by first | with_reducible rfl | simp only [R.bind_eta, R.bind_assoc, R.okb, R.exb, R.nob, R.map_eq, q_gInt, q_gIntB, q_gLen, q_gLenT, q_gLenN, q_gAbs, q_gMax2, q_gMin2, q_gGcd, q_gSum, q_gAny, q_gAll, q_gList, q_gListT, q_gTuple, q_gSorted, q_gRepr, q_cLt, q_cLe, q_cGt, q_cGe, q_cEq, q_cNe, q_cEqS, q_cNeS, q_cEqR, q_cNeR, q_cIsN, q_cIsS, q_cIn, q_cNi, q_cInT, q_cNiT] | rfl))) fun part94 =>
  (tb_app (a := s3) (s2 := .frz) (ps_expr (pe_bm PySem.F.plainAttrs_list PySem.F.slot_list_append PySem.F.type_list_append mt_append (vp_v (pv 10)) (pa_cons (ve_frz (ve_tup (s := .frz) (fun (x : (Int × Int × Unit)) => ((x.1, x.2.1) : (Int × Int))) (va_cons (te_ixL (ve_v (pv 11) rfl) ve_int) (va_cons (te_ixL (ve_frz (ve_lst (s := .frz) (fun (x : (Int × Int × Unit)) => ([x.1, x.2.1] : List Int)) (va_cons (te_add ve_int (te_ixL (ve_v (pv 11) rfl) ve_int)) (va_cons (te_add ve_int (te_ixL (ve_v (pv 11) rfl) ve_int)) va_nil)))) (ve_ca ca_int gIntB hIntB (pe_callTy call_int1 (by rfl) (B.bi "int" (by decide)) (by decide +kernel) (va_cons (ve_v (pv 5) rfl) va_nil)))) va_nil)))) pa_nil))) (by first | with_reducible rfl | simp only [R.bind_eta, R.bind_assoc, R.okb, R.exb, R.nob, R.map_eq, q_gInt, q_gIntB, q_gLen, q_gLenT, q_gLenN, q_gAbs, q_gMax2, q_gMin2, q_gGcd, q_gSum, q_gAny, q_gAll, q_gList, q_gListT, q_gTuple, q_gSorted, q_gRepr, q_cLt, q_cLe, q_cGt, q_cGe, q_cEq, q_cNe, q_cEqS, q_cNeS, q_cEqR, q_cNeR, q_cIsN, q_cIsS, q_cIn, q_cNi, q_cInT, q_cNiT] | rfl) fun loads104 =>
  (vb_nilC (b := loads104) rfl (Le.se (Le.se (Le.se (Le.se (Le.se (Le.se Le.e0 rfl) rfl) rfl) rfl) rfl) rfl)))))
  fun s3' => (vb_frz 6 rfl (vb_frz 9 rfl (vb_frz 10 rfl (vb_retP (x := (T4.mk (nodes6) (s1') (s2') (s3'))) (ps_ret (ve_eq (m' := (R.ok (T4.mk (nodes6) (s1') (s2') (s3')))) (ve_frz (ve_tup (s := .frz) (fun (x : (Int × (List (T4 Int Int Int Int)) × (List (T4 Int Int Int Bool)) × (List (Int × Int)) × Unit)) => ((T4.mk (x.1) (x.2.1) (x.2.2.1) (x.2.2.2.1)) : (T4 Int (List (T4 Int Int Int Int)) (List (T4 Int Int Int Bool)) (List (Int × Int))))) (va_cons (ve_v (pv 4) rfl) (va_cons (ve_v (pv 6) rfl) (va_cons (ve_v (pv 9) rfl) (va_cons (ve_v (pv 10) rfl) va_nil)))))) (by rfl))))))))))))))))))

abbrev s_law_some : Stmt := topS 7
theorem sc_law_some : FnScope ["_law_cell_here", "_law_count", "_law_often", "_law_draws_here", "_law_k"] ["_law_cell_here", "_law_count", "_law_often"] (defScope s_law_some) := ⟨rfl, rfl, rfl, by decide +kernel, rfl, by decide +kernel, by decide +kernel⟩
theorem ok_law_some (B : Bs K mg W) (hW : W.rc.xa = none) (d : Dn K mg "_law_some" "_law_some" s_law_some ["_law_cell_here", "_law_count", "_law_often"]) (c_law_draws : Cal P w K mg base W "_law_draws" 1 (fun a : (Int × (List Int) × Unit) => f_law_draws a.1 a.2.1) (.lst .frz)) : Cal P w K mg base W "_law_some" 2 (fun a : (Int × Int × Int × Unit) => f_law_some a.1 a.2.1 a.2.2.1) .frz :=
  cal d sc_law_some fun fa cdv Ar outer sh H E hr a => by
    have nd := sc_law_some.nd
    obtain ⟨cell1, count2, often3, _⟩ := a
    exact (show VB (cxOf (L2.CX P w) P w K mg base ["_law_cell_here", "_law_count", "_law_often", "_law_draws_here", "_law_k"] "_law_some" (defScope s_law_some) fa cdv Ar outer sh H E) W (fun _ => E) (argE 0 [en cell1, en count2, en often3]) (defBody s_law_some) (f_law_some cell1 count2 often3) (rtOut .frz) from
  (vb_set (ps_set (i := 3) nd rfl (by first | exact Or.inl rfl | exact Or.inr rfl) (ve_eq (m' := ((repR ([(5 : Int)] : List Int) count2).bind fun x4 => (f_law_draws cell1 x4))) (ve_frz (ve_call c_law_draws hr (pass_fn (takes_of rfl rfl rfl rfl)) (va_cons (ve_v (pv 0) rfl) (va_cons (ve_frz (te_rep (ve_frz (ve_lst (s := .frz) (fun (x : (Int × Unit)) => ([x.1] : List Int)) (va_cons ve_int va_nil))) (ve_v (pv 1) rfl))) va_nil)))) (by first | with_reducible rfl | simp only [R.bind_eta, R.bind_assoc, R.okb, R.exb, R.nob, R.map_eq, q_gInt, q_gIntB, q_gLen, q_gLenT, q_gLenN, q_gAbs, q_gMax2, q_gMin2, q_gGcd, q_gSum, q_gAny, q_gAll, q_gList, q_gListT, q_gTuple, q_gSorted, q_gRepr, q_cLt, q_cLe, q_cGt, q_cGe, q_cEq, q_cNe, q_cEqS, q_cNeS, q_cEqR, q_cNeR, q_cIsN, q_cIsS, q_cIn, q_cNi, q_cInT, q_cNiT] | rfl))) fun draws5 =>
  (vb_ret0 (ps_ret (ve_eq (m' := (((rng1 count2).bind fun x8 => (noX (fmapR (fun v6 : Int => ((ixR draws5 v6).bind fun x7 => R.ok (decide (x7 < often3)))) (fun v6 : Int => (R.ok v6)) x8))).bind fun x9 => R.ok (Tu.mk x9))) (ve_ca ca_tuple gTuple hTuple (pe_callTy call_tuple_of (by rfl) (B.bi "tuple" (by decide)) (by decide +kernel) (va_cons (ve_frz (te_lc (own := [("_law_k", 4)]) (g := (gN 4)) lcF rfl nd (vi_rng1 (by rfl) (B.bi "range" (by decide)) (va_cons (ve_v (pv 1) rfl) va_nil)) (blkOk_by (N := ["_law_cell_here", "_law_count", "_law_often", "_law_draws_here", "_law_k"]) (sc := defScope s_law_some) (by decide +kernel)) (fun _ _ _ _ _ => (vg_name (pg_name (i := 4) nd rfl (by first | exact Or.inl rfl | exact Or.inr rfl)))) (fun _ => rfl) (fun (v6 : Int) _ _ _ _ _ => (vts_one (vt_eq (t' := ((ixR draws5 v6).bind fun x7 => R.ok (decide (x7 < often3)))) (vt_cmp op_lt o2_lt cLt hLt (te_ixL (ve_v (pv 3) rfl) (ve_v (pv 4) rfl)) (ve_v (pv 2) rfl) (nomark _)) (by first | with_reducible rfl | simp only [R.bind_eta, R.bind_assoc, R.okb, R.exb, R.nob, R.map_eq, q_gInt, q_gIntB, q_gLen, q_gLenT, q_gLenN, q_gAbs, q_gMax2, q_gMin2, q_gGcd, q_gSum, q_gAny, q_gAll, q_gList, q_gListT, q_gTuple, q_gSorted, q_gRepr, q_cLt, q_cLe, q_cGt, q_cGe, q_cEq, q_cNe, q_cEqS, q_cNeS, q_cEqR, q_cNeR, q_cIsN, q_cIsS, q_cIn, q_cNi, q_cInT, q_cNiT] | rfl)))) (fun (v6 : Int) _ _ _ _ _ => (ve_eq (m' := (R.ok v6)) (ve_v (pv 4) rfl) (by rfl))))) va_nil))) (by first | with_reducible rfl | simp only [R.bind_eta, R.bind_assoc, R.okb, R.exb, R.nob, R.map_eq, q_gInt, q_gIntB, q_gLen, q_gLenT, q_gLenN, q_gAbs, q_gMax2, q_gMin2, q_gGcd, q_gSum, q_gAny, q_gAll, q_gList, q_gListT, q_gTuple, q_gSorted, q_gRepr, q_cLt, q_cLe, q_cGt, q_cGe, q_cEq, q_cNe, q_cEqS, q_cNeS, q_cEqR, q_cNeR, q_cIsN, q_cIsS, q_cIn, q_cNi, q_cInT, q_cNiT] | rfl))))))

abbrev s_law_state : Stmt := topS 8
theorem sc_law_state : FnScope ["_law_cell_here", "_law_net_here", "_law_draws_here", "_law_often"] ["_law_cell_here", "_law_net_here"] (defScope s_law_state) := ⟨rfl, rfl, rfl, by decide +kernel, rfl, by decide +kernel, by decide +kernel⟩
theorem ok_law_state (B : Bs K mg W) (hW : W.rc.xa = none) (d : Dn K mg "_law_state" "_law_state" s_law_state ["_law_cell_here", "_law_net_here"]) (c_law_draws : Cal P w K mg base W "_law_draws" 1 (fun a : (Int × (List Int) × Unit) => f_law_draws a.1 a.2.1) (.lst .frz)) (c_law_some : Cal P w K mg base W "_law_some" 2 (fun a : (Int × Int × Int × Unit) => f_law_some a.1 a.2.1 a.2.2.1) .frz) : Cal P w K mg base W "_law_state" 3 (fun a : (Int × (T4 Int (List (T4 Int Int Int Int)) (List (T4 Int Int Int Bool)) (List (Int × Int))) × Unit) => f_law_state a.1 a.2.1) .frz :=
  cal d sc_law_state fun fa cdv Ar outer sh H E hr a => by
    have nd := sc_law_state.nd
    obtain ⟨cell1, net2, _⟩ := a
    exact (show VB (cxOf (L2.CX P w) P w K mg base ["_law_cell_here", "_law_net_here", "_law_draws_here", "_law_often"] "_law_state" (defScope s_law_state) fa cdv Ar outer sh H E) W (fun _ => E) (argE 0 [en cell1, en net2]) (defBody s_law_state) (f_law_state cell1 net2) (rtOut .frz) from
  (vb_set (ps_set (i := 2) nd rfl (by first | exact Or.inl rfl | exact Or.inr rfl) (ve_eq (m' := (((powR (10 : Int) (6 : Int)).bind fun x3 => (powR (10 : Int) (6 : Int)).bind fun x4 => (powR (10 : Int) (6 : Int)).bind fun x5 => R.ok ([x3, x4, x5, (4 : Int)] : List Int)).bind fun x6 => (f_law_draws cell1 x6))) (ve_frz (ve_call c_law_draws hr (pass_fn (takes_of rfl rfl rfl rfl)) (va_cons (ve_v (pv 0) rfl) (va_cons (ve_frz (ve_lst (s := .frz) (fun (x : (Int × Int × Int × Int × Unit)) => ([x.1, x.2.1, x.2.2.1, x.2.2.2.1] : List Int)) (va_cons (te_pow ve_int ve_int) (va_cons (te_pow ve_int ve_int) (va_cons (te_pow ve_int ve_int) (va_cons ve_int va_nil)))))) va_nil)))) (by first | with_reducible rfl | simp only [R.bind_eta, R.bind_assoc, R.okb, R.exb, R.nob, R.map_eq, q_gInt, q_gIntB, q_gLen, q_gLenT, q_gLenN, q_gAbs, q_gMax2, q_gMin2, q_gGcd, q_gSum, q_gAny, q_gAll, q_gList, q_gListT, q_gTuple, q_gSorted, q_gRepr, q_cLt, q_cLe, q_cGt, q_cGe, q_cEq, q_cNe, q_cEqS, q_cNeS, q_cEqR, q_cNeR, q_cIsN, q_cIsS, q_cIn, q_cNi, q_cInT, q_cNiT] | rfl))) fun draws7 =>
  (vb_set (ps_set (i := 3) nd rfl (by first | exact Or.inl rfl | exact Or.inr rfl) (ve_eq (m' := ((ixR draws7 (3 : Int)).bind fun x8 => (ixR ([(4 : Int), (3 : Int), (4 : Int), (2 : Int)] : List Int) x8))) (te_ixL (ve_frz (ve_lst (s := .frz) (fun (x : (Int × Int × Int × Int × Unit)) => ([x.1, x.2.1, x.2.2.1, x.2.2.2.1] : List Int)) (va_cons ve_int (va_cons ve_int (va_cons ve_int (va_cons ve_int va_nil)))))) (te_ixL (ve_v (pv 2) rfl) ve_int)) (by first | with_reducible rfl | simp only [R.bind_eta, R.bind_assoc, R.okb, R.exb, R.nob, R.map_eq, q_gInt, q_gIntB, q_gLen, q_gLenT, q_gLenN, q_gAbs, q_gMax2, q_gMin2, q_gGcd, q_gSum, q_gAny, q_gAll, q_gList, q_gListT, q_gTuple, q_gSorted, q_gRepr, q_cLt, q_cLe, q_cGt, q_cGe, q_cEq, q_cNe, q_cEqS, q_cNeS, q_cEqR, q_cNeR, q_cIsN, q_cIsS, q_cIn, q_cNi, q_cInT, q_cNiT] | rfl))) fun often9 =>
  (vb_ret0 (ps_ret (ve_eq (m' := (((ixR draws7 (0 : Int)).bind fun x10 => (f_law_some x10 (net2.b.length : Int) often9)).bind fun x13 => ((ixR draws7 (1 : Int)).bind fun x11 => (f_law_some x11 (net2.c.length : Int) often9)).bind fun x14 => ((ixR draws7 (2 : Int)).bind fun x12 => (f_law_some x12 (net2.d.length : Int) (2 : Int))).bind fun x15 => R.ok (T3.mk (x13) (x14) (x15)))) (ve_frz (ve_tup (s := .frz) (fun (x : ((Tu Int) × (Tu Int) × (Tu Int) × Unit)) => ((T3.mk (x.1) (x.2.1) (x.2.2.1)) : (T3 (Tu Int) (Tu Int) (Tu Int)))) (va_cons (ve_call c_law_some hr (pass_fn (takes_of rfl rfl rfl rfl)) (va_cons (te_ixL (ve_v (pv 2) rfl) ve_int) (va_cons (ve_ca ca_len gLen hLen (pe_callB call_len_seq (by rfl) (B.bi "len" (by decide)) (by decide +kernel) (va_cons (te_prj (fun x : (T4 Int (List (T4 Int Int Int Int)) (List (T4 Int Int Int Bool)) (List (Int × Int))) => x.b) (ve_v (pv 1) rfl) ve_int) va_nil))) (va_cons (ve_v (pv 3) rfl) va_nil)))) (va_cons (ve_call c_law_some hr (pass_fn (takes_of rfl rfl rfl rfl)) (va_cons (te_ixL (ve_v (pv 2) rfl) ve_int) (va_cons (ve_ca ca_len gLen hLen (pe_callB call_len_seq (by rfl) (B.bi "len" (by decide)) (by decide +kernel) (va_cons (te_prj (fun x : (T4 Int (List (T4 Int Int Int Int)) (List (T4 Int Int Int Bool)) (List (Int × Int))) => x.c) (ve_v (pv 1) rfl) ve_int) va_nil))) (va_cons (ve_v (pv 3) rfl) va_nil)))) (va_cons (ve_call c_law_some hr (pass_fn (takes_of rfl rfl rfl rfl)) (va_cons (te_ixL (ve_v (pv 2) rfl) ve_int) (va_cons (ve_ca ca_len gLen hLen (pe_callB call_len_seq (by rfl) (B.bi "len" (by decide)) (by decide +kernel) (va_cons (te_prj (fun x : (T4 Int (List (T4 Int Int Int Int)) (List (T4 Int Int Int Bool)) (List (Int × Int))) => x.d) (ve_v (pv 1) rfl) ve_int) va_nil))) (va_cons ve_int va_nil)))) va_nil))))) (by first | with_reducible rfl | simp only [R.bind_eta, R.bind_assoc, R.okb, R.exb, R.nob, R.map_eq, q_gInt, q_gIntB, q_gLen, q_gLenT, q_gLenN, q_gAbs, q_gMax2, q_gMin2, q_gGcd, q_gSum, q_gAny, q_gAll, q_gList, q_gListT, q_gTuple, q_gSorted, q_gRepr, q_cLt, q_cLe, q_cGt, q_cGe, q_cEq, q_cNe, q_cEqS, q_cNeS, q_cEqR, q_cNeR, q_cIsN, q_cIsS, q_cIn, q_cNi, q_cInT, q_cNiT] | rfl)))))))

abbrev s_law_islands : Stmt := topS 9
theorem sc_law_islands : FnScope ["_law_net_here", "_law_state_here", "_law_found", "_law_node", "_law_island", "_law_turn", "_law_k", "_law_a", "_law_b"] ["_law_net_here", "_law_state_here"] (defScope s_law_islands) := ⟨rfl, rfl, rfl, by decide +kernel, rfl, by decide +kernel, by decide +kernel⟩
theorem ok_law_islands (B : Bs K mg W) (hW : W.rc.xa = none) (d : Dn K mg "_law_islands" "_law_islands" s_law_islands ["_law_net_here", "_law_state_here"])  : Cal P w K mg base W "_law_islands" 1 (fun a : ((T4 Int (List (T4 Int Int Int Int)) (List (T4 Int Int Int Bool)) (List (Int × Int))) × (T3 (Tu Int) (Tu Int) (Tu Int)) × Unit) => f_law_islands a.1 a.2.1) .frz :=
  cal d sc_law_islands fun fa cdv Ar outer sh H E hr a => by
    have nd := sc_law_islands.nd
    obtain ⟨net1, state2, _⟩ := a
    exact (show VB (cxOf (L2.CX P w) P w K mg base ["_law_net_here", "_law_state_here", "_law_found", "_law_node", "_law_island", "_law_turn", "_law_k", "_law_a", "_law_b"] "_law_islands" (defScope s_law_islands) fa cdv Ar outer sh H E) W (fun _ => E) (argE 0 [en net1, en state2]) (defBody s_law_islands) (f_law_islands net1 state2) (rtOut .frz) from
  (vb_setN (ps_set (i := 2) nd rfl (by first | exact Or.inl rfl | exact Or.inr rfl) (ve_eq (m' := (R.ok ([] : List (List Int)))) (ve_lst (s := .frz) (fun (x : (Unit)) => ([] : List (List Int))) va_nil) (by rfl))) fun found3 =>
  (tb_for (f := (f_law_islands_l1 net1 state2)) (e := (fun s1 : (List (List Int)) => (se (se (se e0 0 (.vl .fz (en net1))) 1 (.vl .fz (en state2))) 2 (.vl (.ow (.lst .frz) none) (en s1))))) (s0 := found3) (g := (gN 3)) (fun _ _ => rfl) (passes_of rfl) rfl (vi_eqm (m' := (rng1 net1.a)) (vi_rng1 (by rfl) (B.bi "range" (by decide)) (va_cons (te_prj (fun x : (T4 Int (List (T4 Int Int Int Int)) (List (T4 Int Int Int Bool)) (List (Int × Int))) => x.a) (ve_v (pv 0) rfl) ve_int) va_nil)) (by first | with_reducible rfl | simp only [R.bind_eta, R.bind_assoc, R.okb, R.exb, R.nob, R.map_eq, q_gInt, q_gIntB, q_gLen, q_gLenT, q_gLenN, q_gAbs, q_gMax2, q_gMin2, q_gGcd, q_gSum, q_gAny, q_gAll, q_gList, q_gListT, q_gTuple, q_gSorted, q_gRepr, q_cLt, q_cLe, q_cGt, q_cGe, q_cEq, q_cNe, q_cEqS, q_cNeS, q_cEqR, q_cNeR, q_cIsN, q_cIsS, q_cIn, q_cNi, q_cInT, q_cNiT] | rfl)) (vg_name (pg_name (i := 3) nd rfl (by first | exact Or.inl rfl | exact Or.inr rfl))) (Le.se (Le.se (Le.se Le.e0 rfl) rfl) rfl)
  (fun x1_ s1 => (vb_if (vt_eq (t' := R.ok (!((s1.map (fun v6 : (List Int) => (decide (x1_ ∈ v6)))).any id))) (vt_not (vt_eq (t' := (R.ok ((s1.map (fun v6 : (List Int) => (decide (x1_ ∈ v6)))).any id))) (vt_val (ve_ca ca_any gAny hAny (pe_callB (cr_any rfl) (by rfl) (B.bi "any" (by decide)) (by decide +kernel) (va_cons (ve_frz (ve_gr (te_lc (own := [("_law_island", 4)]) (g := (gN 4)) lcP rfl nd (vi_list (ve_v (pv 2) rfl)) (blkOk_by (N := ["_law_net_here", "_law_state_here", "_law_found", "_law_node", "_law_island", "_law_turn", "_law_k", "_law_a", "_law_b"]) (sc := defScope s_law_islands) (by decide +kernel)) (fun _ _ _ _ _ => (vg_name (pg_name (i := 4) nd rfl (by first | exact Or.inl rfl | exact Or.inr rfl)))) (fun _ => rfl) (fun (v6 : (List Int)) _ _ _ _ _ => vts_nil) (fun (v6 : (List Int)) _ _ _ _ _ => (ve_eq (m' := (R.ok (decide (x1_ ∈ v6)))) (ve_cmp (op_inD hr.u65) o2_inL cIn (hIn) (ve_v (pv 3) rfl) (ve_v (pv 4) rfl) (by rfl)) (by rfl)))))) va_nil)))) (by rfl))) (by rfl))
  (vb_setN (ps_set (i := 4) nd rfl (by first | exact Or.inl rfl | exact Or.inr rfl) (ve_eq (m' := (R.ok ([x1_] : List Int))) (ve_lst (s := .frz) (fun (x : (Int × Unit)) => ([x.1] : List Int)) (va_cons (ve_v (pv 3) rfl) va_nil)) (by rfl))) fun island7 =>
  (tb_for (f := (f_law_islands_l2 net1 state2 s1)) (e := (fun s2 : (List Int) => (se (se (se (se e0 0 (.vl .fz (en net1))) 1 (.vl .fz (en state2))) 2 (.vl (.ow (.lst .frz) none) (en s1))) 4 (.vl (.ow (.lst .frz) none) (en s2))))) (s0 := island7) (g := (gN 5)) (fun _ _ => rfl) (passes_of rfl) rfl (vi_eqm (m' := (rng1 net1.a)) (vi_rng1 (by rfl) (B.bi "range" (by decide)) (va_cons (te_prj (fun x : (T4 Int (List (T4 Int Int Int Int)) (List (T4 Int Int Int Bool)) (List (Int × Int))) => x.a) (ve_v (pv 0) rfl) ve_int) va_nil)) (by first | with_reducible rfl | simp only [R.bind_eta, R.bind_assoc, R.okb, R.exb, R.nob, R.map_eq, q_gInt, q_gIntB, q_gLen, q_gLenT, q_gLenN, q_gAbs, q_gMax2, q_gMin2, q_gGcd, q_gSum, q_gAny, q_gAll, q_gList, q_gListT, q_gTuple, q_gSorted, q_gRepr, q_cLt, q_cLe, q_cGt, q_cGe, q_cEq, q_cNe, q_cEqS, q_cNeS, q_cEqR, q_cNeR, q_cIsN, q_cIsS, q_cIn, q_cNi, q_cInT, q_cNiT] | rfl)) (vg_name (pg_name (i := 5) nd rfl (by first | exact Or.inl rfl | exact Or.inr rfl))) (Le.se (Le.se (Le.se (Le.se Le.e0 rfl) rfl) rfl) rfl)
  (fun x2_ s2 => (tb_for (f := (f_law_islands_l3 net1 state2 s1)) (e := (fun s3 : (List Int) => (se (se (se (se e0 0 (.vl .fz (en net1))) 1 (.vl .fz (en state2))) 2 (.vl (.ow (.lst .frz) none) (en s1))) 4 (.vl (.ow (.lst .frz) none) (en s3))))) (s0 := s2) (g := (gN 6)) (fun _ _ => rfl) (passes_of rfl) rfl (vi_eqm (m' := (R.ok state2.a.l)) (vi_tup (te_prj (fun x : (T3 (Tu Int) (Tu Int) (Tu Int)) => x.a) (ve_v (pv 1) rfl) ve_int)) (by rfl)) (vg_name (pg_name (i := 6) nd rfl (by first | exact Or.inl rfl | exact Or.inr rfl))) (Le.se (Le.se (Le.se (Le.se Le.e0 rfl) rfl) rfl) rfl)
  (fun x3_ s3 => (vb_set (ps_set (i := 7) nd rfl (by first | exact Or.inl rfl | exact Or.inr rfl) (ve_eq (m' := ((ixR net1.b x3_).bind fun x14 => R.ok x14.a)) (te_prj (fun x : (T4 Int Int Int Int) => x.a) (te_ixL (te_prj (fun x : (T4 Int (List (T4 Int Int Int Int)) (List (T4 Int Int Int Bool)) (List (Int × Int))) => x.b) (ve_v (pv 0) rfl) ve_int) (ve_v (pv 6) rfl)) ve_int) (by first | with_reducible rfl | simp only [R.bind_eta, R.bind_assoc, R.okb, R.exb, R.nob, R.map_eq, q_gInt, q_gIntB, q_gLen, q_gLenT, q_gLenN, q_gAbs, q_gMax2, q_gMin2, q_gGcd, q_gSum, q_gAny, q_gAll, q_gList, q_gListT, q_gTuple, q_gSorted, q_gRepr, q_cLt, q_cLe, q_cGt, q_cGe, q_cEq, q_cNe, q_cEqS, q_cNeS, q_cEqR, q_cNeR, q_cIsN, q_cIsS, q_cIn, q_cNi, q_cInT, q_cNiT] | rfl))) fun a'15 =>
  (vb_set (ps_set (i := 8) nd rfl (by first | exact Or.inl rfl | exact Or.inr rfl) (ve_eq (m' := ((ixR net1.b x3_).bind fun x16 => R.ok x16.b)) (te_prj (fun x : (T4 Int Int Int Int) => x.b) (te_ixL (te_prj (fun x : (T4 Int (List (T4 Int Int Int Int)) (List (T4 Int Int Int Bool)) (List (Int × Int))) => x.b) (ve_v (pv 0) rfl) ve_int) (ve_v (pv 6) rfl)) ve_int) (by first | with_reducible rfl | simp only [R.bind_eta, R.bind_assoc, R.okb, R.exb, R.nob, R.map_eq, q_gInt, q_gIntB, q_gLen, q_gLenT, q_gLenN, q_gAbs, q_gMax2, q_gMin2, q_gGcd, q_gSum, q_gAny, q_gAll, q_gList, q_gListT, q_gTuple, q_gSorted, q_gRepr, q_cLt, q_cLe, q_cGt, q_cGe, q_cEq, q_cNe, q_cEqS, q_cNeS, q_cEqR, q_cNeR, q_cIsN, q_cIsS, q_cIn, q_cNi, q_cInT, q_cNiT] | rfl))) fun b17 =>
  (vb_ifJ (eJ := (fun s18 : (List Int) => (se (se (se (se (se (se e0 0 (.vl .fz (en net1))) 1 (.vl .fz (en state2))) 2 (.vl (.ow (.lst .frz) none) (en s1))) 4 (.vl (.ow (.lst .frz) none) (en s18))) 7 (.vl .fz (en a'15))) 8 (.vl .fz (en b17))))) (vt_w (vw_andP (vt_all (vt_eq (t' := (R.ok (decide (a'15 ∈ s3)))) (vt_cmp (op_inD hr.u65) o2_inL cIn (hIn) (ve_v (pv 7) rfl) (ve_v (pv 4) rfl) (by rfl)) (by rfl))) (vw_and1 (vt_all (vt_eq (t' := (R.ok (decide (b17 ∉ s3)))) (vt_cmp (op_notInD hr.u65) o2_niL cNi (hNi) (ve_v (pv 8) rfl) (ve_v (pv 4) rfl) (by rfl)) (by rfl))))))
  (tb_app (a := s3) (s2 := .frz) (ps_expr (pe_bm PySem.F.plainAttrs_list PySem.F.slot_list_append PySem.F.type_list_append mt_append (vp_v (pv 4)) (pa_cons (ve_v (pv 8) rfl) pa_nil))) (by first | with_reducible rfl | simp only [R.bind_eta, R.bind_assoc, R.okb, R.exb, R.nob, R.map_eq, q_gInt, q_gIntB, q_gLen, q_gLenT, q_gLenN, q_gAbs, q_gMax2, q_gMin2, q_gGcd, q_gSum, q_gAny, q_gAll, q_gList, q_gListT, q_gTuple, q_gSorted, q_gRepr, q_cLt, q_cLe, q_cGt, q_cGe, q_cEq, q_cNe, q_cEqS, q_cNeS, q_cEqR, q_cNeR, q_cIsN, q_cIsS, q_cIn, q_cNi, q_cInT, q_cNiT] | rfl) fun island19 =>
  (vb_nil (b := island19) rfl (Le.se (Le.se (Le.se (Le.se (Le.se (Le.se Le.e0 rfl) rfl) rfl) rfl) rfl) rfl)))
  (vb_nil (b := s3) rfl (Le.se (Le.se (Le.se (Le.se (Le.se (Le.se Le.e0 rfl) rfl) rfl) rfl) rfl) rfl))
  fun s18 => (vb_if (vt_w (vw_andP (vt_all (vt_eq (t' := (R.ok (decide (b17 ∈ s18)))) (vt_cmp (op_inD hr.u65) o2_inL cIn (hIn) (ve_v (pv 8) rfl) (ve_v (pv 4) rfl) (by rfl)) (by rfl))) (vw_and1 (vt_all (vt_eq (t' := (R.ok (decide (a'15 ∉ s18)))) (vt_cmp (op_notInD hr.u65) o2_niL cNi (hNi) (ve_v (pv 7) rfl) (ve_v (pv 4) rfl) (by rfl)) (by rfl))))))
  (tb_app (a := s18) (s2 := .frz) (ps_expr (pe_bm PySem.F.plainAttrs_list PySem.F.slot_list_append PySem.F.type_list_append mt_append (vp_v (pv 4)) (pa_cons (ve_v (pv 7) rfl) pa_nil))) (by first | with_reducible rfl | simp only [R.bind_eta, R.bind_assoc, R.okb, R.exb, R.nob, R.map_eq, q_gInt, q_gIntB, q_gLen, q_gLenT, q_gLenN, q_gAbs, q_gMax2, q_gMin2, q_gGcd, q_gSum, q_gAny, q_gAll, q_gList, q_gListT, q_gTuple, q_gSorted, q_gRepr, q_cLt, q_cLe, q_cGt, q_cGe, q_cEq, q_cNe, q_cEqS, q_cNeS, q_cEqR, q_cNeR, q_cIsN, q_cIsS, q_cIn, q_cNi, q_cInT, q_cNiT] | rfl) fun island20 =>
  (vb_nilC (b := island20) rfl (Le.se (Le.se (Le.se (Le.se Le.e0 rfl) rfl) rfl) rfl)))
  (vb_nilC (b := s18) rfl (Le.se (Le.se (Le.se (Le.se Le.e0 rfl) rfl) rfl) rfl)))))))
  fun s3' => (vb_nilC (b := (s3')) rfl (Le.se (Le.se (Le.se (Le.se Le.e0 rfl) rfl) rfl) rfl))))
  fun s2' => (tb_app (a := s1) (s2 := .frz) (ps_expr (pe_bm PySem.F.plainAttrs_list PySem.F.slot_list_append PySem.F.type_list_append mt_append (vp_v (pv 2)) (pa_cons (ve_frz (ve_gr (vn_ca cn_sorted gSorted hSorted (pe_callB cr_sortedI (by rfl) (B.bi "sorted" (by decide)) (by decide +kernel) (va_cons (ve_v (pv 4) rfl) va_nil))))) pa_nil))) (by first | with_reducible rfl | simp only [R.bind_eta, R.bind_assoc, R.okb, R.exb, R.nob, R.map_eq, q_gInt, q_gIntB, q_gLen, q_gLenT, q_gLenN, q_gAbs, q_gMax2, q_gMin2, q_gGcd, q_gSum, q_gAny, q_gAll, q_gList, q_gListT, q_gTuple, q_gSorted, q_gRepr, q_cLt, q_cLe, q_cGt, q_cGe, q_cEq, q_cNe, q_cEqS, q_cNeS, q_cEqR, q_cNeR, q_cIsN, q_cIsS, q_cIn, q_cNi, q_cInT, q_cNiT] | rfl) fun found21 =>
  (vb_nilC (b := found21) rfl (Le.se (Le.se (Le.se Le.e0 rfl) rfl) rfl)))))
  (vb_nilC (b := s1) rfl (Le.se (Le.se (Le.se Le.e0 rfl) rfl) rfl))))
  fun s1' => (vb_frz 2 rfl (vb_retP (x := s1') (ps_ret (ve_eq (m' := (R.ok s1')) (ve_v (pv 2) rfl) (by rfl))))))))

abbrev s_law_stations : Stmt := topS 11
theorem sc_law_stations : FnScope ["_law_net_here", "_law_state_here", "_law_island", "_law_k"] ["_law_net_here", "_law_state_here", "_law_island"] (defScope s_law_stations) := ⟨rfl, rfl, rfl, by decide +kernel, rfl, by decide +kernel, by decide +kernel⟩
theorem ok_law_stations (B : Bs K mg W) (hW : W.rc.xa = none) (d : Dn K mg "_law_stations" "_law_stations" s_law_stations ["_law_net_here", "_law_state_here", "_law_island"])  : Cal P w K mg base W "_law_stations" 1 (fun a : ((T4 Int (List (T4 Int Int Int Int)) (List (T4 Int Int Int Bool)) (List (Int × Int))) × (T3 (Tu Int) (Tu Int) (Tu Int)) × (List Int) × Unit) => f_law_stations a.1 a.2.1 a.2.2.1) .frz :=
  cal d sc_law_stations fun fa cdv Ar outer sh H E hr a => by
    have nd := sc_law_stations.nd
    obtain ⟨net1, state2, island3, _⟩ := a
    exact (show VB (cxOf (L2.CX P w) P w K mg base ["_law_net_here", "_law_state_here", "_law_island", "_law_k"] "_law_stations" (defScope s_law_stations) fa cdv Ar outer sh H E) W (fun _ => E) (argE 0 [en net1, en state2, en island3]) (defBody s_law_stations) (f_law_stations net1 state2 island3) (rtOut .frz) from
  (vb_ret0 (ps_ret (ve_eq (m' := (noX (fmapR (fun v4 : Int => (((ixR net1.c v4).bind fun x5 => R.ok x5.a).bind fun x6 => R.ok (decide (x6 ∈ island3)))) (fun v4 : Int => (ixR net1.c v4)) state2.b.l))) (ve_frz (te_lc (own := [("_law_k", 3)]) (g := (gN 3)) lcF rfl nd (vi_tup (te_prj (fun x : (T3 (Tu Int) (Tu Int) (Tu Int)) => x.b) (ve_v (pv 1) rfl) ve_int)) (blkOk_by (N := ["_law_net_here", "_law_state_here", "_law_island", "_law_k"]) (sc := defScope s_law_stations) (by decide +kernel)) (fun _ _ _ _ _ => (vg_name (pg_name (i := 3) nd rfl (by first | exact Or.inl rfl | exact Or.inr rfl)))) (fun _ => rfl) (fun (v4 : Int) _ _ _ _ _ => (vts_one (vt_eq (t' := (((ixR net1.c v4).bind fun x5 => R.ok x5.a).bind fun x6 => R.ok (decide (x6 ∈ island3)))) (vt_cmp (op_inD hr.u65) o2_inL cIn (hIn) (te_prj (fun x : (T4 Int Int Int Bool) => x.a) (te_ixL (te_prj (fun x : (T4 Int (List (T4 Int Int Int Int)) (List (T4 Int Int Int Bool)) (List (Int × Int))) => x.c) (ve_v (pv 0) rfl) ve_int) (ve_v (pv 3) rfl)) ve_int) (ve_v (pv 2) rfl) (by rfl)) (by first | with_reducible rfl | simp only [R.bind_eta, R.bind_assoc, R.okb, R.exb, R.nob, R.map_eq, q_gInt, q_gIntB, q_gLen, q_gLenT, q_gLenN, q_gAbs, q_gMax2, q_gMin2, q_gGcd, q_gSum, q_gAny, q_gAll, q_gList, q_gListT, q_gTuple, q_gSorted, q_gRepr, q_cLt, q_cLe, q_cGt, q_cGe, q_cEq, q_cNe, q_cEqS, q_cNeS, q_cEqR, q_cNeR, q_cIsN, q_cIsS, q_cIn, q_cNi, q_cInT, q_cNiT] | rfl)))) (fun (v4 : Int) _ _ _ _ _ => (ve_eq (m' := (ixR net1.c v4)) (te_ixL (te_prj (fun x : (T4 Int (List (T4 Int Int Int Int)) (List (T4 Int Int Int Bool)) (List (Int × Int))) => x.c) (ve_v (pv 0) rfl) ve_int) (ve_v (pv 3) rfl)) (by first | with_reducible rfl | simp only [R.bind_eta, R.bind_assoc, R.okb, R.exb, R.nob, R.map_eq, q_gInt, q_gIntB, q_gLen, q_gLenT, q_gLenN, q_gAbs, q_gMax2, q_gMin2, q_gGcd, q_gSum, q_gAny, q_gAll, q_gList, q_gListT, q_gTuple, q_gSorted, q_gRepr, q_cLt, q_cLe, q_cGt, q_cGe, q_cEq, q_cNe, q_cEqS, q_cNeS, q_cEqR, q_cNeR, q_cIsN, q_cIsS, q_cIn, q_cNi, q_cInT, q_cNiT] | rfl))))) (by first | with_reducible rfl | simp only [R.bind_eta, R.bind_assoc, R.okb, R.exb, R.nob, R.map_eq, q_gInt, q_gIntB, q_gLen, q_gLenT, q_gLenN, q_gAbs, q_gMax2, q_gMin2, q_gGcd, q_gSum, q_gAny, q_gAll, q_gList, q_gListT, q_gTuple, q_gSorted, q_gRepr, q_cLt, q_cLe, q_cGt, q_cGe, q_cEq, q_cNe, q_cEqS, q_cNeS, q_cEqR, q_cNeR, q_cIsN, q_cIsS, q_cIn, q_cNi, q_cInT, q_cNiT] | rfl)))))

abbrev s_law_lines : Stmt := topS 12
theorem sc_law_lines : FnScope ["_law_net_here", "_law_state_here", "_law_island", "_law_k"] ["_law_net_here", "_law_state_here", "_law_island"] (defScope s_law_lines) := ⟨rfl, rfl, rfl, by decide +kernel, rfl, by decide +kernel, by decide +kernel⟩
theorem ok_law_lines (B : Bs K mg W) (hW : W.rc.xa = none) (d : Dn K mg "_law_lines" "_law_lines" s_law_lines ["_law_net_here", "_law_state_here", "_law_island"])  : Cal P w K mg base W "_law_lines" 1 (fun a : ((T4 Int (List (T4 Int Int Int Int)) (List (T4 Int Int Int Bool)) (List (Int × Int))) × (T3 (Tu Int) (Tu Int) (Tu Int)) × (List Int) × Unit) => f_law_lines a.1 a.2.1 a.2.2.1) .frz :=
  cal d sc_law_lines fun fa cdv Ar outer sh H E hr a => by
    have nd := sc_law_lines.nd
    obtain ⟨net1, state2, island3, _⟩ := a
    exact (show VB (cxOf (L2.CX P w) P w K mg base ["_law_net_here", "_law_state_here", "_law_island", "_law_k"] "_law_lines" (defScope s_law_lines) fa cdv Ar outer sh H E) W (fun _ => E) (argE 0 [en net1, en state2, en island3]) (defBody s_law_lines) (f_law_lines net1 state2 island3) (rtOut .frz) from
  (vb_ret0 (ps_ret (ve_eq (m' := (noX (fmapR (fun v4 : Int => (((ixR net1.b v4).bind fun x5 => R.ok x5.a).bind fun x6 => R.ok (decide (x6 ∈ island3)))) (fun v4 : Int => (ixR net1.b v4)) state2.a.l))) (ve_frz (te_lc (own := [("_law_k", 3)]) (g := (gN 3)) lcF rfl nd (vi_tup (te_prj (fun x : (T3 (Tu Int) (Tu Int) (Tu Int)) => x.a) (ve_v (pv 1) rfl) ve_int)) (blkOk_by (N := ["_law_net_here", "_law_state_here", "_law_island", "_law_k"]) (sc := defScope s_law_lines) (by decide +kernel)) (fun _ _ _ _ _ => (vg_name (pg_name (i := 3) nd rfl (by first | exact Or.inl rfl | exact Or.inr rfl)))) (fun _ => rfl) (fun (v4 : Int) _ _ _ _ _ => (vts_one (vt_eq (t' := (((ixR net1.b v4).bind fun x5 => R.ok x5.a).bind fun x6 => R.ok (decide (x6 ∈ island3)))) (vt_cmp (op_inD hr.u65) o2_inL cIn (hIn) (te_prj (fun x : (T4 Int Int Int Int) => x.a) (te_ixL (te_prj (fun x : (T4 Int (List (T4 Int Int Int Int)) (List (T4 Int Int Int Bool)) (List (Int × Int))) => x.b) (ve_v (pv 0) rfl) ve_int) (ve_v (pv 3) rfl)) ve_int) (ve_v (pv 2) rfl) (by rfl)) (by first | with_reducible rfl | simp only [R.bind_eta, R.bind_assoc, R.okb, R.exb, R.nob, R.map_eq, q_gInt, q_gIntB, q_gLen, q_gLenT, q_gLenN, q_gAbs, q_gMax2, q_gMin2, q_gGcd, q_gSum, q_gAny, q_gAll, q_gList, q_gListT, q_gTuple, q_gSorted, q_gRepr, q_cLt, q_cLe, q_cGt, q_cGe, q_cEq, q_cNe, q_cEqS, q_cNeS, q_cEqR, q_cNeR, q_cIsN, q_cIsS, q_cIn, q_cNi, q_cInT, q_cNiT] | rfl)))) (fun (v4 : Int) _ _ _ _ _ => (ve_eq (m' := (ixR net1.b v4)) (te_ixL (te_prj (fun x : (T4 Int (List (T4 Int Int Int Int)) (List (T4 Int Int Int Bool)) (List (Int × Int))) => x.b) (ve_v (pv 0) rfl) ve_int) (ve_v (pv 3) rfl)) (by first | with_reducible rfl | simp only [R.bind_eta, R.bind_assoc, R.okb, R.exb, R.nob, R.map_eq, q_gInt, q_gIntB, q_gLen, q_gLenT, q_gLenN, q_gAbs, q_gMax2, q_gMin2, q_gGcd, q_gSum, q_gAny, q_gAll, q_gList, q_gListT, q_gTuple, q_gSorted, q_gRepr, q_cLt, q_cLe, q_cGt, q_cGe, q_cEq, q_cNe, q_cEqS, q_cNeS, q_cEqR, q_cNeR, q_cIsN, q_cIsS, q_cIn, q_cNi, q_cInT, q_cNiT] | rfl))))) (by first | with_reducible rfl | simp only [R.bind_eta, R.bind_assoc, R.okb, R.exb, R.nob, R.map_eq, q_gInt, q_gIntB, q_gLen, q_gLenT, q_gLenN, q_gAbs, q_gMax2, q_gMin2, q_gGcd, q_gSum, q_gAny, q_gAll, q_gList, q_gListT, q_gTuple, q_gSorted, q_gRepr, q_cLt, q_cLe, q_cGt, q_cGe, q_cEq, q_cNe, q_cEqS, q_cNeS, q_cEqR, q_cNeR, q_cIsN, q_cIsS, q_cIn, q_cNi, q_cInT, q_cNiT] | rfl)))))

abbrev s_law_fed : Stmt := topS 13
theorem sc_law_fed : FnScope ["_law_net_here", "_law_state_here", "_law_node", "_law_k"] ["_law_net_here", "_law_state_here", "_law_node"] (defScope s_law_fed) := ⟨rfl, rfl, rfl, by decide +kernel, rfl, by decide +kernel, by decide +kernel⟩
theorem ok_law_fed (B : Bs K mg W) (hW : W.rc.xa = none) (d : Dn K mg "_law_fed" "_law_fed" s_law_fed ["_law_net_here", "_law_state_here", "_law_node"])  : Cal P w K mg base W "_law_fed" 1 (fun a : ((T4 Int (List (T4 Int Int Int Int)) (List (T4 Int Int Int Bool)) (List (Int × Int))) × (T3 (Tu Int) (Tu Int) (Tu Int)) × Int × Unit) => f_law_fed a.1 a.2.1 a.2.2.1) .frz :=
  cal d sc_law_fed fun fa cdv Ar outer sh H E hr a => by
    have nd := sc_law_fed.nd
    obtain ⟨net1, state2, node3, _⟩ := a
    exact (show VB (cxOf (L2.CX P w) P w K mg base ["_law_net_here", "_law_state_here", "_law_node", "_law_k"] "_law_fed" (defScope s_law_fed) fa cdv Ar outer sh H E) W (fun _ => E) (argE 0 [en net1, en state2, en node3]) (defBody s_law_fed) (f_law_fed net1 state2 node3) (rtOut .frz) from
  (vb_ret0 (ps_ret (ve_eq (m' := ((noX (fmapR (fun v4 : Int => (((ixR net1.d v4).bind fun x5 => R.ok x5.1).bind fun x6 => R.ok (decide (x6 = node3)))) (fun v4 : Int => ((ixR net1.d v4).bind fun x7 => R.ok x7.2)) state2.c.l)).bind fun x8 => R.ok x8.sum)) (ve_ca ca_sum gSum hSum (pe_callB (cr_sum rfl) (by rfl) (B.bi "sum" (by decide)) (by decide +kernel) (va_cons (ve_frz (te_lc (own := [("_law_k", 3)]) (g := (gN 3)) lcF rfl nd (vi_tup (te_prj (fun x : (T3 (Tu Int) (Tu Int) (Tu Int)) => x.c) (ve_v (pv 1) rfl) ve_int)) (blkOk_by (N := ["_law_net_here", "_law_state_here", "_law_node", "_law_k"]) (sc := defScope s_law_fed) (by decide +kernel)) (fun _ _ _ _ _ => (vg_name (pg_name (i := 3) nd rfl (by first | exact Or.inl rfl | exact Or.inr rfl)))) (fun _ => rfl) (fun (v4 : Int) _ _ _ _ _ => (vts_one (vt_eq (t' := (((ixR net1.d v4).bind fun x5 => R.ok x5.1).bind fun x6 => R.ok (decide (x6 = node3)))) (vt_cmp (op_eqA hr.room.units) o2_eq cEq (hEq) (te_prj (fun x : (Int × Int) => x.1) (te_ixL (te_prj (fun x : (T4 Int (List (T4 Int Int Int Int)) (List (T4 Int Int Int Bool)) (List (Int × Int))) => x.d) (ve_v (pv 0) rfl) ve_int) (ve_v (pv 3) rfl)) ve_int) (ve_v (pv 2) rfl) (nomark _)) (by first | with_reducible rfl | simp only [R.bind_eta, R.bind_assoc, R.okb, R.exb, R.nob, R.map_eq, q_gInt, q_gIntB, q_gLen, q_gLenT, q_gLenN, q_gAbs, q_gMax2, q_gMin2, q_gGcd, q_gSum, q_gAny, q_gAll, q_gList, q_gListT, q_gTuple, q_gSorted, q_gRepr, q_cLt, q_cLe, q_cGt, q_cGe, q_cEq, q_cNe, q_cEqS, q_cNeS, q_cEqR, q_cNeR, q_cIsN, q_cIsS, q_cIn, q_cNi, q_cInT, q_cNiT] | rfl)))) (fun (v4 : Int) _ _ _ _ _ => (ve_eq (m' := ((ixR net1.d v4).bind fun x7 => R.ok x7.2)) (te_prj (fun x : (Int × Int) => x.2) (te_ixL (te_prj (fun x : (T4 Int (List (T4 Int Int Int Int)) (List (T4 Int Int Int Bool)) (List (Int × Int))) => x.d) (ve_v (pv 0) rfl) ve_int) (ve_v (pv 3) rfl)) ve_int) (by first | with_reducible rfl | simp only [R.bind_eta, R.bind_assoc, R.okb, R.exb, R.nob, R.map_eq, q_gInt, q_gIntB, q_gLen, q_gLenT, q_gLenN, q_gAbs, q_gMax2, q_gMin2, q_gGcd, q_gSum, q_gAny, q_gAll, q_gList, q_gListT, q_gTuple, q_gSorted, q_gRepr, q_cLt, q_cLe, q_cGt, q_cGe, q_cEq, q_cNe, q_cEqS, q_cNeS, q_cEqR, q_cNeR, q_cIsN, q_cIsS, q_cIn, q_cNi, q_cInT, q_cNiT] | rfl))))) va_nil))) (by first | with_reducible rfl | simp only [R.bind_eta, R.bind_assoc, R.okb, R.exb, R.nob, R.map_eq, q_gInt, q_gIntB, q_gLen, q_gLenT, q_gLenN, q_gAbs, q_gMax2, q_gMin2, q_gGcd, q_gSum, q_gAny, q_gAll, q_gList, q_gListT, q_gTuple, q_gSorted, q_gRepr, q_cLt, q_cLe, q_cGt, q_cGe, q_cEq, q_cNe, q_cEqS, q_cNeS, q_cEqR, q_cNeR, q_cIsN, q_cIsS, q_cIn, q_cNi, q_cInT, q_cNiT] | rfl)))))

abbrev s_law_conditions : Stmt := topS 14
theorem sc_law_conditions : FnScope ["_law_net_here", "_law_state_here", "_law_island", "_law_stations_here", "_law_lines_here", "_law_count", "_law_zero", "_law_places", "_law_k", "_law_rows", "_law_flows", "_law_line", "_law_node", "_law_low", "_law_high", "_law_flow", "_law_row", "_law_sign", "_law_j", "_law_item"] ["_law_net_here", "_law_state_here", "_law_island"] (defScope s_law_conditions) := ⟨rfl, rfl, rfl, by decide +kernel, rfl, by decide +kernel, by decide +kernel⟩
theorem ok_law_conditions (B : Bs K mg W) (hW : W.rc.xa = none) (d : Dn K mg "_law_conditions" "_law_conditions" s_law_conditions ["_law_net_here", "_law_state_here", "_law_island"]) (c_law_stations : Cal P w K mg base W "_law_stations" 1 (fun a : ((T4 Int (List (T4 Int Int Int Int)) (List (T4 Int Int Int Bool)) (List (Int × Int))) × (T3 (Tu Int) (Tu Int) (Tu Int)) × (List Int) × Unit) => f_law_stations a.1 a.2.1 a.2.2.1) .frz) (c_law_lines : Cal P w K mg base W "_law_lines" 1 (fun a : ((T4 Int (List (T4 Int Int Int Int)) (List (T4 Int Int Int Bool)) (List (Int × Int))) × (T3 (Tu Int) (Tu Int) (Tu Int)) × (List Int) × Unit) => f_law_lines a.1 a.2.1 a.2.2.1) .frz) (c_law_fed : Cal P w K mg base W "_law_fed" 1 (fun a : ((T4 Int (List (T4 Int Int Int Int)) (List (T4 Int Int Int Bool)) (List (Int × Int))) × (T3 (Tu Int) (Tu Int) (Tu Int)) × Int × Unit) => f_law_fed a.1 a.2.1 a.2.2.1) .frz) : Cal P w K mg base W "_law_conditions" 2 (fun a : ((T4 Int (List (T4 Int Int Int Int)) (List (T4 Int Int Int Bool)) (List (Int × Int))) × (T3 (Tu Int) (Tu Int) (Tu Int)) × (List Int) × Unit) => f_law_conditions a.1 a.2.1 a.2.2.1) .frz :=
  cal d sc_law_conditions fun fa cdv Ar outer sh H E hr a => by
    have nd := sc_law_conditions.nd
    obtain ⟨net1, state2, island3, _⟩ := a
    exact (show VB (cxOf (L2.CX P w) P w K mg base ["_law_net_here", "_law_state_here", "_law_island", "_law_stations_here", "_law_lines_here", "_law_count", "_law_zero", "_law_places", "_law_k", "_law_rows", "_law_flows", "_law_line", "_law_node", "_law_low", "_law_high", "_law_flow", "_law_row", "_law_sign", "_law_j", "_law_item"] "_law_conditions" (defScope s_law_conditions) fa cdv Ar outer sh H E) W (fun _ => E) (argE 0 [en net1, en state2, en island3]) (defBody s_law_conditions) (f_law_conditions net1 state2 island3) (rtOut .frz) from
  (vb_set (ps_set (i := 3) nd rfl (by first | exact Or.inl rfl | exact Or.inr rfl) (ve_eq (m' := (f_law_stations net1 state2 island3)) (ve_call c_law_stations hr (pass_fn (takes_of rfl rfl rfl rfl)) (va_cons (ve_v (pv 0) rfl) (va_cons (ve_v (pv 1) rfl) (va_cons (ve_v (pv 2) rfl) va_nil)))) (by first | with_reducible rfl | simp only [R.bind_eta, R.bind_assoc, R.okb, R.exb, R.nob, R.map_eq, q_gInt, q_gIntB, q_gLen, q_gLenT, q_gLenN, q_gAbs, q_gMax2, q_gMin2, q_gGcd, q_gSum, q_gAny, q_gAll, q_gList, q_gListT, q_gTuple, q_gSorted, q_gRepr, q_cLt, q_cLe, q_cGt, q_cGe, q_cEq, q_cNe, q_cEqS, q_cNeS, q_cEqR, q_cNeR, q_cIsN, q_cIsS, q_cIn, q_cNi, q_cInT, q_cNiT] | rfl))) fun stations4 =>
  (vb_set (ps_set (i := 4) nd rfl (by first | exact Or.inl rfl | exact Or.inr rfl) (ve_eq (m' := (f_law_lines net1 state2 island3)) (ve_call c_law_lines hr (pass_fn (takes_of rfl rfl rfl rfl)) (va_cons (ve_v (pv 0) rfl) (va_cons (ve_v (pv 1) rfl) (va_cons (ve_v (pv 2) rfl) va_nil)))) (by first | with_reducible rfl | simp only [R.bind_eta, R.bind_assoc, R.okb, R.exb, R.nob, R.map_eq, q_gInt, q_gIntB, q_gLen, q_gLenT, q_gLenN, q_gAbs, q_gMax2, q_gMin2, q_gGcd, q_gSum, q_gAny, q_gAll, q_gList, q_gListT, q_gTuple, q_gSorted, q_gRepr, q_cLt, q_cLe, q_cGt, q_cGe, q_cEq, q_cNe, q_cEqS, q_cNeS, q_cEqR, q_cNeR, q_cIsN, q_cIsS, q_cIn, q_cNi, q_cInT, q_cNiT] | rfl))) fun lines5 =>
  (vb_set (ps_set (i := 5) nd rfl (by first | exact Or.inl rfl | exact Or.inr rfl) (ve_eq (m' := (R.ok (((stations4.length : Int) + (island3.length : Int)) - (1 : Int)))) (te_sub (te_add (ve_ca ca_len gLen hLen (pe_callB call_len_seq (by rfl) (B.bi "len" (by decide)) (by decide +kernel) (va_cons (ve_v (pv 3) rfl) va_nil))) (ve_ca ca_len gLen hLen (pe_callB call_len_seq (by rfl) (B.bi "len" (by decide)) (by decide +kernel) (va_cons (ve_v (pv 2) rfl) va_nil)))) ve_int) (by rfl))) fun count6 =>
  (vb_set (ps_set (i := 6) nd rfl (by first | exact Or.inl rfl | exact Or.inr rfl) (ve_eq (m' := (repR ([(0 : Int)] : List Int) ((1 : Int) + count6))) (ve_frz (te_rep (ve_frz (ve_lst (s := .frz) (fun (x : (Int × Unit)) => ([x.1] : List Int)) (va_cons ve_int va_nil))) (te_add ve_int (ve_v (pv 5) rfl)))) (by first | with_reducible rfl | simp only [R.bind_eta, R.bind_assoc, R.okb, R.exb, R.nob, R.map_eq, q_gInt, q_gIntB, q_gLen, q_gLenT, q_gLenN, q_gAbs, q_gMax2, q_gMin2, q_gGcd, q_gSum, q_gAny, q_gAll, q_gList, q_gListT, q_gTuple, q_gSorted, q_gRepr, q_cLt, q_cLe, q_cGt, q_cGe, q_cEq, q_cNe, q_cEqS, q_cNeS, q_cEqR, q_cNeR, q_cIsN, q_cIsS, q_cIn, q_cNi, q_cInT, q_cNiT] | rfl))) fun zero7 =>
  (vb_setN (ps_set (i := 7) nd rfl (by first | exact Or.inl rfl | exact Or.inr rfl) (ve_eq (m' := (R.ok (Dc.mk [] : (Dc Int Int)))) (te_dnew (α := Int)) (by rfl))) fun places8 =>
  (tb_for (f := (f_law_conditions_l1 net1 state2 island3 stations4 lines5 count6 zero7)) (e := (fun s1 : (Dc Int Int) => (se (se (se (se (se (se (se (se e0 0 (.vl .fz (en net1))) 1 (.vl .fz (en state2))) 2 (.vl .fz (en island3))) 3 (.vl .fz (en stations4))) 4 (.vl .fz (en lines5))) 5 (.vl .fz (en count6))) 6 (.vl .fz (en zero7))) 7 (.vl (.ow (.dic .frz) none) (en s1))))) (s0 := places8) (g := (gN 8)) (fun _ _ => rfl) (passes_of rfl) rfl (vi_eqm (m' := (rng2 (1 : Int) (island3.length : Int))) (vi_rng2 (by rfl) (B.bi "range" (by decide)) (va_cons ve_int (va_cons (ve_ca ca_len gLen hLen (pe_callB call_len_seq (by rfl) (B.bi "len" (by decide)) (by decide +kernel) (va_cons (ve_v (pv 2) rfl) va_nil))) va_nil))) (by first | with_reducible rfl | simp only [R.bind_eta, R.bind_assoc, R.okb, R.exb, R.nob, R.map_eq, q_gInt, q_gIntB, q_gLen, q_gLenT, q_gLenN, q_gAbs, q_gMax2, q_gMin2, q_gGcd, q_gSum, q_gAny, q_gAll, q_gList, q_gListT, q_gTuple, q_gSorted, q_gRepr, q_cLt, q_cLe, q_cGt, q_cGe, q_cEq, q_cNe, q_cEqS, q_cNeS, q_cEqR, q_cNeR, q_cIsN, q_cIsS, q_cIn, q_cNi, q_cInT, q_cNiT] | rfl)) (vg_name (pg_name (i := 8) nd rfl (by first | exact Or.inl rfl | exact Or.inr rfl))) (Le.se (Le.se (Le.se (Le.se (Le.se (Le.se (Le.se (Le.se Le.e0 rfl) rfl) rfl) rfl) rfl) rfl) rfl) rfl)
  (fun x1_ s1 => (tb_dput (d := s1) (ps_dput hr.u1 (pv 7) (te_ixL (ve_v (pv 2) rfl) (ve_v (pv 8) rfl)) (te_add (ve_ca ca_len gLen hLen (pe_callB call_len_seq (by rfl) (B.bi "len" (by decide)) (by decide +kernel) (va_cons (ve_v (pv 3) rfl) va_nil))) (ve_v (pv 8) rfl)) (by rfl)) (by first | with_reducible rfl | simp only [R.bind_eta, R.bind_assoc, R.okb, R.exb, R.nob, R.map_eq, q_gInt, q_gIntB, q_gLen, q_gLenT, q_gLenN, q_gAbs, q_gMax2, q_gMin2, q_gGcd, q_gSum, q_gAny, q_gAll, q_gList, q_gListT, q_gTuple, q_gSorted, q_gRepr, q_cLt, q_cLe, q_cGt, q_cGe, q_cEq, q_cNe, q_cEqS, q_cNeS, q_cEqR, q_cNeR, q_cIsN, q_cIsS, q_cIn, q_cNi, q_cInT, q_cNiT] | rfl) fun places16 =>
  (vb_nilC (b := places16) rfl (Le.se (Le.se (Le.se (Le.se (Le.se (Le.se (Le.se (Le.se Le.e0 rfl) rfl) rfl) rfl) rfl) rfl) rfl) rfl))))
  fun s1' => (vb_set (ps_set (i := 9) nd rfl (by first | exact Or.inl rfl | exact Or.inr rfl) (ve_eq (m' := (R.ok ([] : List (List Int)))) (ve_frz (ve_lst (s := .frz) (fun (x : (Unit)) => ([] : List (List Int))) va_nil)) (by rfl))) fun rows18 =>
  (tb_for (f := (f_law_conditions_l2 net1 state2 island3 stations4 lines5 count6 zero7 (s1'))) (e := (fun s2 : (List (List Int)) => (se (se (se (se (se (se (se (se (se e0 0 (.vl .fz (en net1))) 1 (.vl .fz (en state2))) 2 (.vl .fz (en island3))) 3 (.vl .fz (en stations4))) 4 (.vl .fz (en lines5))) 5 (.vl .fz (en count6))) 6 (.vl .fz (en zero7))) 7 (.vl (.ow (.dic .frz) none) (en s1'))) 9 (.vl .fz (en s2))))) (s0 := rows18) (g := (gN 8)) (fun _ _ => rfl) (passes_of rfl) rfl (vi_eqm (m' := (rng1 (stations4.length : Int))) (vi_rng1 (by rfl) (B.bi "range" (by decide)) (va_cons (ve_ca ca_len gLen hLen (pe_callB call_len_seq (by rfl) (B.bi "len" (by decide)) (by decide +kernel) (va_cons (ve_v (pv 3) rfl) va_nil))) va_nil)) (by first | with_reducible rfl | simp only [R.bind_eta, R.bind_assoc, R.okb, R.exb, R.nob, R.map_eq, q_gInt, q_gIntB, q_gLen, q_gLenT, q_gLenN, q_gAbs, q_gMax2, q_gMin2, q_gGcd, q_gSum, q_gAny, q_gAll, q_gList, q_gListT, q_gTuple, q_gSorted, q_gRepr, q_cLt, q_cLe, q_cGt, q_cGe, q_cEq, q_cNe, q_cEqS, q_cNeS, q_cEqR, q_cNeR, q_cIsN, q_cIsS, q_cIn, q_cNi, q_cInT, q_cNiT] | rfl)) (vg_name (pg_name (i := 8) nd rfl (by first | exact Or.inl rfl | exact Or.inr rfl))) (Le.se (Le.se (Le.se (Le.se (Le.se (Le.se (Le.se (Le.se (Le.se Le.e0 rfl) rfl) rfl) rfl) rfl) rfl) rfl) rfl) rfl)
  (fun x2_ s2 => (vb_setN (ps_set (i := 13) nd rfl (by first | exact Or.inl rfl | exact Or.inr rfl) (ve_eq (m' := (R.ok zero7)) (vn_ca cn_list gList hList (pe_callTy call_list_of (by rfl) (B.bi "list" (by decide)) (by decide +kernel) (va_cons (ve_v (pv 6) rfl) va_nil))) (by rfl))) fun low27 =>
  (vb_setN (ps_set (i := 14) nd rfl (by first | exact Or.inl rfl | exact Or.inr rfl) (ve_eq (m' := (R.ok zero7)) (vn_ca cn_list gList hList (pe_callTy call_list_of (by rfl) (B.bi "list" (by decide)) (by decide +kernel) (va_cons (ve_v (pv 6) rfl) va_nil))) (by rfl))) fun high28 =>
  (tb_put (a := low27) (s2 := .frz) (ps_asg (te_neg (te_prj (fun x : (T4 Int Int Int Bool) => x.b) (te_ixL (ve_v (pv 3) rfl) (ve_v (pv 8) rfl)) ve_int)) (pg_sub (vp_v (pv 13)) ve_int set_list)) (by first | with_reducible rfl | simp only [R.bind_eta, R.bind_assoc, R.okb, R.exb, R.nob, R.map_eq, q_gInt, q_gIntB, q_gLen, q_gLenT, q_gLenN, q_gAbs, q_gMax2, q_gMin2, q_gGcd, q_gSum, q_gAny, q_gAll, q_gList, q_gListT, q_gTuple, q_gSorted, q_gRepr, q_cLt, q_cLe, q_cGt, q_cGe, q_cEq, q_cNe, q_cEqS, q_cNeS, q_cEqR, q_cNeR, q_cIsN, q_cIsS, q_cIn, q_cNi, q_cInT, q_cNiT] | rfl) fun low31 =>
  (tb_put (a := low31) (s2 := .frz) (ps_asg ve_int (pg_sub (vp_v (pv 13)) (te_add ve_int (ve_v (pv 8) rfl)) set_list)) (by first | with_reducible rfl | simp only [R.bind_eta, R.bind_assoc, R.okb, R.exb, R.nob, R.map_eq, q_gInt, q_gIntB, q_gLen, q_gLenT, q_gLenN, q_gAbs, q_gMax2, q_gMin2, q_gGcd, q_gSum, q_gAny, q_gAll, q_gList, q_gListT, q_gTuple, q_gSorted, q_gRepr, q_cLt, q_cLe, q_cGt, q_cGe, q_cEq, q_cNe, q_cEqS, q_cNeS, q_cEqR, q_cNeR, q_cIsN, q_cIsS, q_cIn, q_cNi, q_cInT, q_cNiT] | rfl) fun low32 =>
  (tb_put (a := high28) (s2 := .frz) (ps_asg (te_prj (fun x : (T4 Int Int Int Bool) => x.c) (te_ixL (ve_v (pv 3) rfl) (ve_v (pv 8) rfl)) ve_int) (pg_sub (vp_v (pv 14)) ve_int set_list)) (by first | with_reducible rfl | simp only [R.bind_eta, R.bind_assoc, R.okb, R.exb, R.nob, R.map_eq, q_gInt, q_gIntB, q_gLen, q_gLenT, q_gLenN, q_gAbs, q_gMax2, q_gMin2, q_gGcd, q_gSum, q_gAny, q_gAll, q_gList, q_gListT, q_gTuple, q_gSorted, q_gRepr, q_cLt, q_cLe, q_cGt, q_cGe, q_cEq, q_cNe, q_cEqS, q_cNeS, q_cEqR, q_cNeR, q_cIsN, q_cIsS, q_cIn, q_cNi, q_cInT, q_cNiT] | rfl) fun high34 =>
  (tb_put (a := high34) (s2 := .frz) (ps_asg (te_neg ve_int) (pg_sub (vp_v (pv 14)) (te_add ve_int (ve_v (pv 8) rfl)) set_list)) (by first | with_reducible rfl | simp only [R.bind_eta, R.bind_assoc, R.okb, R.exb, R.nob, R.map_eq, q_gInt, q_gIntB, q_gLen, q_gLenT, q_gLenN, q_gAbs, q_gMax2, q_gMin2, q_gGcd, q_gSum, q_gAny, q_gAll, q_gList, q_gListT, q_gTuple, q_gSorted, q_gRepr, q_cLt, q_cLe, q_cGt, q_cGe, q_cEq, q_cNe, q_cEqS, q_cNeS, q_cEqR, q_cNeR, q_cIsN, q_cIsS, q_cIn, q_cNi, q_cInT, q_cNiT] | rfl) fun high35 =>
  (vb_frz 13 rfl (vb_frz 14 rfl (vb_set (ps_set (i := 9) nd rfl (by first | exact Or.inl rfl | exact Or.inr rfl) (ve_eq (m' := (catR s2 ([low32, high35] : List (List Int)))) (ve_frz (te_cat (ve_v (pv 9) rfl) (ve_frz (ve_lst (s := .frz) (fun (x : ((List Int) × (List Int) × Unit)) => ([x.1, x.2.1] : List (List Int))) (va_cons (ve_v (pv 13) rfl) (va_cons (ve_v (pv 14) rfl) va_nil)))))) (by first | with_reducible rfl | simp only [R.bind_eta, R.bind_assoc, R.okb, R.exb, R.nob, R.map_eq, q_gInt, q_gIntB, q_gLen, q_gLenT, q_gLenN, q_gAbs, q_gMax2, q_gMin2, q_gGcd, q_gSum, q_gAny, q_gAll, q_gList, q_gListT, q_gTuple, q_gSorted, q_gRepr, q_cLt, q_cLe, q_cGt, q_cGe, q_cEq, q_cNe, q_cEqS, q_cNeS, q_cEqR, q_cNeR, q_cIsN, q_cIsS, q_cIn, q_cNi, q_cInT, q_cNiT] | rfl))) fun rows36 =>
  (vb_nilC (b := rows36) rfl (Le.se (Le.se (Le.se (Le.se (Le.se (Le.se (Le.se (Le.se (Le.se Le.e0 rfl) rfl) rfl) rfl) rfl) rfl) rfl) rfl) rfl))))))))))))
  fun s2' => (vb_setN (ps_set (i := 10) nd rfl (by first | exact Or.inl rfl | exact Or.inr rfl) (ve_eq (m' := (R.ok ([] : List (List Int)))) (ve_lst (s := .frz) (fun (x : (Unit)) => ([] : List (List Int))) va_nil) (by rfl))) fun flows39 =>
  (tb_for (f := (f_law_conditions_l3 net1 state2 island3 stations4 lines5 count6 zero7 (s1'))) (e := (fun s3 : ((List (List Int)) × (List (List Int))) => (se (se (se (se (se (se (se (se (se (se e0 0 (.vl .fz (en net1))) 1 (.vl .fz (en state2))) 2 (.vl .fz (en island3))) 3 (.vl .fz (en stations4))) 4 (.vl .fz (en lines5))) 5 (.vl .fz (en count6))) 6 (.vl .fz (en zero7))) 7 (.vl (.ow (.dic .frz) none) (en s1'))) 9 (.vl .fz (en s3.1))) 10 (.vl (.ow (.lst .frz) none) (en s3.2))))) (s0 := (s2', flows39)) (g := (gN 11)) (fun _ _ => rfl) (passes_of rfl) rfl (vi_eqm (m' := (R.ok lines5)) (vi_list (ve_v (pv 4) rfl)) (by rfl)) (vg_name (pg_name (i := 11) nd rfl (by first | exact Or.inl rfl | exact Or.inr rfl))) (Le.se (Le.se (Le.se (Le.se (Le.se (Le.se (Le.se (Le.se (Le.se (Le.se Le.e0 rfl) rfl) rfl) rfl) rfl) rfl) rfl) rfl) rfl) rfl)
  (fun x3_ s3 => (vb_setN (ps_set (i := 15) nd rfl (by first | exact Or.inl rfl | exact Or.inr rfl) (ve_eq (m' := (R.ok zero7)) (vn_ca cn_list gList hList (pe_callTy call_list_of (by rfl) (B.bi "list" (by decide)) (by decide +kernel) (va_cons (ve_v (pv 6) rfl) va_nil))) (by rfl))) fun flow48 =>
  (vb_ifJ (eJ := (fun s49 : (List Int) => (se (se (se (se (se (se (se (se (se (se (se (se e0 0 (.vl .fz (en net1))) 1 (.vl .fz (en state2))) 2 (.vl .fz (en island3))) 3 (.vl .fz (en stations4))) 4 (.vl .fz (en lines5))) 5 (.vl .fz (en count6))) 6 (.vl .fz (en zero7))) 7 (.vl (.ow (.dic .frz) none) (en (s1')))) 9 (.vl .fz (en s3.1))) 10 (.vl (.ow (.lst .frz) none) (en s3.2))) 11 (.vl .fz (en x3_))) 15 (.vl (.ow (.lst .frz) none) (en s49))))) (vt_all (vt_eq (t' := (R.ok (dcV (s1').l x3_.a).isSome)) (vt_din hr.u1 (te_prj (fun x : (T4 Int Int Int Int) => x.a) (ve_v (pv 11) rfl) ve_int) (ve_v (pv 7) rfl)) (by rfl)))
  (tb_put (a := flow48) (s2 := .frz) (ps_asg (te_prj (fun x : (T4 Int Int Int Int) => x.c) (ve_v (pv 11) rfl) ve_int) (pg_sub (vp_v (pv 15)) (ve_sc (te_dget hr.u1 (ve_v (pv 7) rfl) (te_prj (fun x : (T4 Int Int Int Int) => x.a) (ve_v (pv 11) rfl) ve_int))) set_list)) (by first | with_reducible rfl | simp only [R.bind_eta, R.bind_assoc, R.okb, R.exb, R.nob, R.map_eq, q_gInt, q_gIntB, q_gLen, q_gLenT, q_gLenN, q_gAbs, q_gMax2, q_gMin2, q_gGcd, q_gSum, q_gAny, q_gAll, q_gList, q_gListT, q_gTuple, q_gSorted, q_gRepr, q_cLt, q_cLe, q_cGt, q_cGe, q_cEq, q_cNe, q_cEqS, q_cNeS, q_cEqR, q_cNeR, q_cIsN, q_cIsS, q_cIn, q_cNi, q_cInT, q_cNiT] | rfl) fun flow50 =>
  (vb_nil (b := flow50) rfl (Le.se (Le.se (Le.se (Le.se (Le.se (Le.se (Le.se (Le.se (Le.se (Le.se (Le.se (Le.se Le.e0 rfl) rfl) rfl) rfl) rfl) rfl) rfl) rfl) rfl) rfl) rfl) rfl)))
  (vb_nil (b := flow48) rfl (Le.se (Le.se (Le.se (Le.se (Le.se (Le.se (Le.se (Le.se (Le.se (Le.se (Le.se (Le.se Le.e0 rfl) rfl) rfl) rfl) rfl) rfl) rfl) rfl) rfl) rfl) rfl) rfl))
  fun s49 => (vb_ifJ (eJ := (fun s52 : (List Int) => (se (se (se (se (se (se (se (se (se (se (se (se e0 0 (.vl .fz (en net1))) 1 (.vl .fz (en state2))) 2 (.vl .fz (en island3))) 3 (.vl .fz (en stations4))) 4 (.vl .fz (en lines5))) 5 (.vl .fz (en count6))) 6 (.vl .fz (en zero7))) 7 (.vl (.ow (.dic .frz) none) (en (s1')))) 9 (.vl .fz (en s3.1))) 10 (.vl (.ow (.lst .frz) none) (en s3.2))) 11 (.vl .fz (en x3_))) 15 (.vl (.ow (.lst .frz) none) (en s52))))) (vt_all (vt_eq (t' := (R.ok (dcV (s1').l x3_.b).isSome)) (vt_din hr.u1 (te_prj (fun x : (T4 Int Int Int Int) => x.b) (ve_v (pv 11) rfl) ve_int) (ve_v (pv 7) rfl)) (by rfl)))
  (tb_put (a := s49) (s2 := .frz) (ps_asg (te_neg (te_prj (fun x : (T4 Int Int Int Int) => x.c) (ve_v (pv 11) rfl) ve_int)) (pg_sub (vp_v (pv 15)) (ve_sc (te_dget hr.u1 (ve_v (pv 7) rfl) (te_prj (fun x : (T4 Int Int Int Int) => x.b) (ve_v (pv 11) rfl) ve_int))) set_list)) (by first | with_reducible rfl | simp only [R.bind_eta, R.bind_assoc, R.okb, R.exb, R.nob, R.map_eq, q_gInt, q_gIntB, q_gLen, q_gLenT, q_gLenN, q_gAbs, q_gMax2, q_gMin2, q_gGcd, q_gSum, q_gAny, q_gAll, q_gList, q_gListT, q_gTuple, q_gSorted, q_gRepr, q_cLt, q_cLe, q_cGt, q_cGe, q_cEq, q_cNe, q_cEqS, q_cNeS, q_cEqR, q_cNeR, q_cIsN, q_cIsS, q_cIn, q_cNi, q_cInT, q_cNiT] | rfl) fun flow53 =>
  (vb_nil (b := flow53) rfl (Le.se (Le.se (Le.se (Le.se (Le.se (Le.se (Le.se (Le.se (Le.se (Le.se (Le.se (Le.se Le.e0 rfl) rfl) rfl) rfl) rfl) rfl) rfl) rfl) rfl) rfl) rfl) rfl)))
  (vb_nil (b := s49) rfl (Le.se (Le.se (Le.se (Le.se (Le.se (Le.se (Le.se (Le.se (Le.se (Le.se (Le.se (Le.se Le.e0 rfl) rfl) rfl) rfl) rfl) rfl) rfl) rfl) rfl) rfl) rfl) rfl))
  fun s52 => (vb_frz 15 rfl (tb_app (a := s3.2) (s2 := .frz) (ps_expr (pe_bm PySem.F.plainAttrs_list PySem.F.slot_list_append PySem.F.type_list_append mt_append (vp_v (pv 10)) (pa_cons (ve_v (pv 15) rfl) pa_nil))) (by first | with_reducible rfl | simp only [R.bind_eta, R.bind_assoc, R.okb, R.exb, R.nob, R.map_eq, q_gInt, q_gIntB, q_gLen, q_gLenT, q_gLenN, q_gAbs, q_gMax2, q_gMin2, q_gGcd, q_gSum, q_gAny, q_gAll, q_gList, q_gListT, q_gTuple, q_gSorted, q_gRepr, q_cLt, q_cLe, q_cGt, q_cGe, q_cEq, q_cNe, q_cEqS, q_cNeS, q_cEqR, q_cNeR, q_cIsN, q_cIsS, q_cIn, q_cNi, q_cInT, q_cNiT] | rfl) fun flows55 =>
  (vb_set (ps_set (i := 9) nd rfl (by first | exact Or.inl rfl | exact Or.inr rfl) (ve_eq (m' := ((((((ixR s52 (0 : Int)).bind fun x56 => R.ok (x3_.d - x56)).bind fun x57 => R.ok ([x57] : List Int)).bind fun x59 => (catR x59 ((cutL s52 (some (1 : Int)) none).map (fun v58 : Int => (-v58))))).bind fun x63 => ((((ixR s52 (0 : Int)).bind fun x60 => R.ok (x3_.d + x60)).bind fun x61 => R.ok ([x61] : List Int)).bind fun x62 => (catR x62 (cutL s52 (some (1 : Int)) none))).bind fun x64 => R.ok ([x63, x64] : List (List Int))).bind fun x65 => (catR s3.1 x65))) (ve_frz (te_cat (ve_v (pv 9) rfl) (ve_frz (ve_lst (s := .frz) (fun (x : ((List Int) × (List Int) × Unit)) => ([x.1, x.2.1] : List (List Int))) (va_cons (ve_frz (te_cat (ve_frz (ve_lst (s := .frz) (fun (x : (Int × Unit)) => ([x.1] : List Int)) (va_cons (te_sub (te_prj (fun x : (T4 Int Int Int Int) => x.d) (ve_v (pv 11) rfl) ve_int) (te_ixL (ve_v (pv 15) rfl) ve_int)) va_nil))) (ve_frz (te_lc (own := [("_law_item", 19)]) (g := (gN 19)) lcP rfl nd (vi_list (ve_frz (vn_sl (ve_v (pv 15) rfl) (vo_some ve_int) vo_none))) (blkOk_by (N := ["_law_net_here", "_law_state_here", "_law_island", "_law_stations_here", "_law_lines_here", "_law_count", "_law_zero", "_law_places", "_law_k", "_law_rows", "_law_flows", "_law_line", "_law_node", "_law_low", "_law_high", "_law_flow", "_law_row", "_law_sign", "_law_j", "_law_item"]) (sc := defScope s_law_conditions) (by decide +kernel)) (fun _ _ _ _ _ => (vg_name (pg_name (i := 19) nd rfl (by first | exact Or.inl rfl | exact Or.inr rfl)))) (fun _ => rfl) (fun (v58 : Int) _ _ _ _ _ => vts_nil) (fun (v58 : Int) _ _ _ _ _ => (ve_eq (m' := (R.ok (-v58))) (te_neg (ve_v (pv 19) rfl)) (by rfl))))))) (va_cons (ve_frz (te_cat (ve_frz (ve_lst (s := .frz) (fun (x : (Int × Unit)) => ([x.1] : List Int)) (va_cons (te_add (te_prj (fun x : (T4 Int Int Int Int) => x.d) (ve_v (pv 11) rfl) ve_int) (te_ixL (ve_v (pv 15) rfl) ve_int)) va_nil))) (ve_frz (vn_sl (ve_v (pv 15) rfl) (vo_some ve_int) vo_none)))) va_nil)))))) (by first | with_reducible rfl | simp only [R.bind_eta, R.bind_assoc, R.okb, R.exb, R.nob, R.map_eq, q_gInt, q_gIntB, q_gLen, q_gLenT, q_gLenN, q_gAbs, q_gMax2, q_gMin2, q_gGcd, q_gSum, q_gAny, q_gAll, q_gList, q_gListT, q_gTuple, q_gSorted, q_gRepr, q_cLt, q_cLe, q_cGt, q_cGe, q_cEq, q_cNe, q_cEqS, q_cNeS, q_cEqR, q_cNeR, q_cIsN, q_cIsS, q_cIn, q_cNi, q_cInT, q_cNiT] | rfl))) fun rows66 =>
  (vb_nilC (b := (rows66, flows55)) rfl (Le.se (Le.se (Le.se (Le.se (Le.se (Le.se (Le.se (Le.se (Le.se (Le.se Le.e0 rfl) rfl) rfl) rfl) rfl) rfl) rfl) rfl) rfl) rfl)))))))))
  fun s3' => (tb_for (f := (f_law_conditions_l4 net1 state2 stations4 lines5 count6 zero7 (s3'.2))) (e := (fun s4 : (List (List Int)) => (se (se (se (se (se (se (se (se e0 0 (.vl .fz (en net1))) 1 (.vl .fz (en state2))) 3 (.vl .fz (en stations4))) 4 (.vl .fz (en lines5))) 5 (.vl .fz (en count6))) 6 (.vl .fz (en zero7))) 9 (.vl .fz (en s4))) 10 (.vl (.ow (.lst .frz) none) (en s3'.2))))) (s0 := (s3'.1)) (g := (gN 12)) (fun _ _ => rfl) (passes_of rfl) rfl (vi_eqm (m' := (R.ok island3)) (vi_list (ve_v (pv 2) rfl)) (by rfl)) (vg_name (pg_name (i := 12) nd rfl (by first | exact Or.inl rfl | exact Or.inr rfl))) (Le.se (Le.se (Le.se (Le.se (Le.se (Le.se (Le.se (Le.se Le.e0 rfl) rfl) rfl) rfl) rfl) rfl) rfl) rfl)
  (fun x4_ s4 => (vb_setN (ps_set (i := 16) nd rfl (by first | exact Or.inl rfl | exact Or.inr rfl) (ve_eq (m' := (R.ok zero7)) (vn_ca cn_list gList hList (pe_callTy call_list_of (by rfl) (B.bi "list" (by decide)) (by decide +kernel) (va_cons (ve_v (pv 6) rfl) va_nil))) (by rfl))) fun row74 =>
  (tb_put (a := row74) (s2 := .frz) (ps_asg (te_neg (ve_call c_law_fed hr (pass_fn (takes_of rfl rfl rfl rfl)) (va_cons (ve_v (pv 0) rfl) (va_cons (ve_v (pv 1) rfl) (va_cons (ve_v (pv 12) rfl) va_nil))))) (pg_sub (vp_v (pv 16)) ve_int set_list)) (by first | with_reducible rfl | simp only [R.bind_eta, R.bind_assoc, R.okb, R.exb, R.nob, R.map_eq, q_gInt, q_gIntB, q_gLen, q_gLenT, q_gLenN, q_gAbs, q_gMax2, q_gMin2, q_gGcd, q_gSum, q_gAny, q_gAll, q_gList, q_gListT, q_gTuple, q_gSorted, q_gRepr, q_cLt, q_cLe, q_cGt, q_cGe, q_cEq, q_cNe, q_cEqS, q_cNeS, q_cEqR, q_cNeR, q_cIsN, q_cIsS, q_cIn, q_cNi, q_cInT, q_cNiT] | rfl) fun row76 =>
  (tb_for (f := (f_law_conditions_l5 net1 state2 stations4 lines5 count6 zero7 s4 (s3'.2) x4_)) (e := (fun s5 : (List Int) => (se (se (se (se (se (se (se (se (se (se e0 0 (.vl .fz (en net1))) 1 (.vl .fz (en state2))) 3 (.vl .fz (en stations4))) 4 (.vl .fz (en lines5))) 5 (.vl .fz (en count6))) 6 (.vl .fz (en zero7))) 9 (.vl .fz (en s4))) 10 (.vl (.ow (.lst .frz) none) (en (s3'.2)))) 12 (.vl .fz (en x4_))) 16 (.vl (.ow (.lst .frz) none) (en s5))))) (s0 := row76) (g := (gN 8)) (fun _ _ => rfl) (passes_of rfl) rfl (vi_eqm (m' := (rng1 (stations4.length : Int))) (vi_rng1 (by rfl) (B.bi "range" (by decide)) (va_cons (ve_ca ca_len gLen hLen (pe_callB call_len_seq (by rfl) (B.bi "len" (by decide)) (by decide +kernel) (va_cons (ve_v (pv 3) rfl) va_nil))) va_nil)) (by first | with_reducible rfl | simp only [R.bind_eta, R.bind_assoc, R.okb, R.exb, R.nob, R.map_eq, q_gInt, q_gIntB, q_gLen, q_gLenT, q_gLenN, q_gAbs, q_gMax2, q_gMin2, q_gGcd, q_gSum, q_gAny, q_gAll, q_gList, q_gListT, q_gTuple, q_gSorted, q_gRepr, q_cLt, q_cLe, q_cGt, q_cGe, q_cEq, q_cNe, q_cEqS, q_cNeS, q_cEqR, q_cNeR, q_cIsN, q_cIsS, q_cIn, q_cNi, q_cInT, q_cNiT] | rfl)) (vg_name (pg_name (i := 8) nd rfl (by first | exact Or.inl rfl | exact Or.inr rfl))) (Le.se (Le.se (Le.se (Le.se (Le.se (Le.se (Le.se (Le.se (Le.se (Le.se Le.e0 rfl) rfl) rfl) rfl) rfl) rfl) rfl) rfl) rfl) rfl)
  (fun x5_ s5 => (vb_if (vt_eq (t' := (((ixR stations4 x5_).bind fun x86 => R.ok x86.a).bind fun x87 => R.ok (decide (x87 = x4_)))) (vt_cmp (op_eqA hr.room.units) o2_eq cEq (hEq) (te_prj (fun x : (T4 Int Int Int Bool) => x.a) (te_ixL (ve_v (pv 3) rfl) (ve_v (pv 8) rfl)) ve_int) (ve_v (pv 12) rfl) (nomark _)) (by first | with_reducible rfl | simp only [R.bind_eta, R.bind_assoc, R.okb, R.exb, R.nob, R.map_eq, q_gInt, q_gIntB, q_gLen, q_gLenT, q_gLenN, q_gAbs, q_gMax2, q_gMin2, q_gGcd, q_gSum, q_gAny, q_gAll, q_gList, q_gListT, q_gTuple, q_gSorted, q_gRepr, q_cLt, q_cLe, q_cGt, q_cGe, q_cEq, q_cNe, q_cEqS, q_cNeS, q_cEqR, q_cNeR, q_cIsN, q_cIsS, q_cIn, q_cNi, q_cInT, q_cNiT] | rfl))
  (tb_put (a := s5) (s2 := .frz) (ps_asg (te_add (ve_sc (te_ixL (ve_v (pv 16) rfl) (te_add ve_int (ve_v (pv 8) rfl)))) ve_int) (pg_sub (vp_v (pv 16)) (te_add ve_int (ve_v (pv 8) rfl)) set_list)) (by first | with_reducible rfl | simp only [R.bind_eta, R.bind_assoc, R.okb, R.exb, R.nob, R.map_eq, q_gInt, q_gIntB, q_gLen, q_gLenT, q_gLenN, q_gAbs, q_gMax2, q_gMin2, q_gGcd, q_gSum, q_gAny, q_gAll, q_gList, q_gListT, q_gTuple, q_gSorted, q_gRepr, q_cLt, q_cLe, q_cGt, q_cGe, q_cEq, q_cNe, q_cEqS, q_cNeS, q_cEqR, q_cNeR, q_cIsN, q_cIsS, q_cIn, q_cNi, q_cInT, q_cNiT] | rfl) fun row89 =>
  (vb_nilC (b := row89) rfl (Le.se (Le.se (Le.se (Le.se (Le.se (Le.se (Le.se (Le.se (Le.se (Le.se Le.e0 rfl) rfl) rfl) rfl) rfl) rfl) rfl) rfl) rfl) rfl)))
  (vb_nilC (b := s5) rfl (Le.se (Le.se (Le.se (Le.se (Le.se (Le.se (Le.se (Le.se (Le.se (Le.se Le.e0 rfl) rfl) rfl) rfl) rfl) rfl) rfl) rfl) rfl) rfl))))
  fun s5' => (tb_for (f := (f_law_conditions_l6 net1 state2 stations4 lines5 count6 zero7 s4 (s3'.2) x4_)) (e := (fun s6 : (List Int) => (se (se (se (se (se (se (se (se (se (se e0 0 (.vl .fz (en net1))) 1 (.vl .fz (en state2))) 3 (.vl .fz (en stations4))) 4 (.vl .fz (en lines5))) 5 (.vl .fz (en count6))) 6 (.vl .fz (en zero7))) 9 (.vl .fz (en s4))) 10 (.vl (.ow (.lst .frz) none) (en (s3'.2)))) 12 (.vl .fz (en x4_))) 16 (.vl (.ow (.lst .frz) none) (en s6))))) (s0 := (s5')) (g := (gN 8)) (fun _ _ => rfl) (passes_of rfl) rfl (vi_eqm (m' := (rng1 (lines5.length : Int))) (vi_rng1 (by rfl) (B.bi "range" (by decide)) (va_cons (ve_ca ca_len gLen hLen (pe_callB call_len_seq (by rfl) (B.bi "len" (by decide)) (by decide +kernel) (va_cons (ve_v (pv 4) rfl) va_nil))) va_nil)) (by first | with_reducible rfl | simp only [R.bind_eta, R.bind_assoc, R.okb, R.exb, R.nob, R.map_eq, q_gInt, q_gIntB, q_gLen, q_gLenT, q_gLenN, q_gAbs, q_gMax2, q_gMin2, q_gGcd, q_gSum, q_gAny, q_gAll, q_gList, q_gListT, q_gTuple, q_gSorted, q_gRepr, q_cLt, q_cLe, q_cGt, q_cGe, q_cEq, q_cNe, q_cEqS, q_cNeS, q_cEqR, q_cNeR, q_cIsN, q_cIsS, q_cIn, q_cNi, q_cInT, q_cNiT] | rfl)) (vg_name (pg_name (i := 8) nd rfl (by first | exact Or.inl rfl | exact Or.inr rfl))) (Le.se (Le.se (Le.se (Le.se (Le.se (Le.se (Le.se (Le.se (Le.se (Le.se Le.e0 rfl) rfl) rfl) rfl) rfl) rfl) rfl) rfl) rfl) rfl)
  (fun x6_ s6 => (vb_set (ps_set (i := 17) nd rfl (by first | exact Or.inl rfl | exact Or.inr rfl) (ve_eq (m' := (((((ixR lines5 x6_).bind fun x100 => R.ok x100.b).bind fun x101 => R.ok (decide (x101 = x4_))).bind fun x102 => R.ok (if x102 then (1 : Int) else 0)).bind fun x106 => ((((ixR lines5 x6_).bind fun x103 => R.ok x103.a).bind fun x104 => R.ok (decide (x104 = x4_))).bind fun x105 => R.ok (if x105 then (1 : Int) else 0)).bind fun x107 => R.ok (x106 - x107))) (te_sub (ve_ca ca_int gIntB hIntB (pe_callTy call_int1 (by rfl) (B.bi "int" (by decide)) (by decide +kernel) (va_cons (ve_cmp (op_eqA hr.room.units) o2_eq cEq (hEq) (te_prj (fun x : (T4 Int Int Int Int) => x.b) (te_ixL (ve_v (pv 4) rfl) (ve_v (pv 8) rfl)) ve_int) (ve_v (pv 12) rfl) (nomark _)) va_nil))) (ve_ca ca_int gIntB hIntB (pe_callTy call_int1 (by rfl) (B.bi "int" (by decide)) (by decide +kernel) (va_cons (ve_cmp (op_eqA hr.room.units) o2_eq cEq (hEq) (te_prj (fun x : (T4 Int Int Int Int) => x.a) (te_ixL (ve_v (pv 4) rfl) (ve_v (pv 8) rfl)) ve_int) (ve_v (pv 12) rfl) (nomark _)) va_nil)))) (by first | with_reducible rfl | simp only [R.bind_eta, R.bind_assoc, R.okb, R.exb, R.nob, R.map_eq, q_gInt, q_gIntB, q_gLen, q_gLenT, q_gLenN, q_gAbs, q_gMax2, q_gMin2, q_gGcd, q_gSum, q_gAny, q_gAll, q_gList, q_gListT, q_gTuple, q_gSorted, q_gRepr, q_cLt, q_cLe, q_cGt, q_cGe, q_cEq, q_cNe, q_cEqS, q_cNeS, q_cEqR, q_cNeR, q_cIsN, q_cIsS, q_cIn, q_cNi, q_cInT, q_cNiT] | rfl))) fun sign108 =>
  (vb_setN (ps_set (i := 16) nd rfl (by first | exact Or.inl rfl | exact Or.inr rfl) (ve_eq (m' := ((rng1 ((1 : Int) + count6)).bind fun x120 => (noX (mapR (fun v115 : Int => ((ixR s6 v115).bind fun x118 => (((ixR (s3'.2) x6_).bind fun x116 => (ixR x116 v115)).bind fun x117 => (mulR sign108 x117)).bind fun x119 => R.ok (x118 + x119))) x120)))) (te_lc (own := [("_law_j", 18)]) (g := (gN 18)) lcM rfl nd (vi_rng1 (by rfl) (B.bi "range" (by decide)) (va_cons (te_add ve_int (ve_v (pv 5) rfl)) va_nil)) (blkOk_by (N := ["_law_net_here", "_law_state_here", "_law_island", "_law_stations_here", "_law_lines_here", "_law_count", "_law_zero", "_law_places", "_law_k", "_law_rows", "_law_flows", "_law_line", "_law_node", "_law_low", "_law_high", "_law_flow", "_law_row", "_law_sign", "_law_j", "_law_item"]) (sc := defScope s_law_conditions) (by decide +kernel)) (fun _ _ _ _ _ => (vg_name (pg_name (i := 18) nd rfl (by first | exact Or.inl rfl | exact Or.inr rfl)))) (fun _ => rfl) (fun (v115 : Int) _ _ _ _ _ => vts_nil) (fun (v115 : Int) _ _ _ _ _ => (ve_eq (m' := ((ixR s6 v115).bind fun x118 => (((ixR (s3'.2) x6_).bind fun x116 => (ixR x116 v115)).bind fun x117 => (mulR sign108 x117)).bind fun x119 => R.ok (x118 + x119))) (te_add (ve_sc (te_ixL (ve_v (pv 16) rfl) (ve_v (pv 18) rfl))) (te_mul (ve_v (pv 17) rfl) (ve_sc (te_ixL (te_ixL (ve_v (pv 10) rfl) (ve_v (pv 8) rfl)) (ve_v (pv 18) rfl))))) (by first | with_reducible rfl | simp only [R.bind_eta, R.bind_assoc, R.okb, R.exb, R.nob, R.map_eq, q_gInt, q_gIntB, q_gLen, q_gLenT, q_gLenN, q_gAbs, q_gMax2, q_gMin2, q_gGcd, q_gSum, q_gAny, q_gAll, q_gList, q_gListT, q_gTuple, q_gSorted, q_gRepr, q_cLt, q_cLe, q_cGt, q_cGe, q_cEq, q_cNe, q_cEqS, q_cNeS, q_cEqR, q_cNeR, q_cIsN, q_cIsS, q_cIn, q_cNi, q_cInT, q_cNiT] | rfl)))) (by first | with_reducible rfl | simp only [R.bind_eta, R.bind_assoc, R.okb, R.exb, R.nob, R.map_eq, q_gInt, q_gIntB, q_gLen, q_gLenT, q_gLenN, q_gAbs, q_gMax2, q_gMin2, q_gGcd, q_gSum, q_gAny, q_gAll, q_gList, q_gListT, q_gTuple, q_gSorted, q_gRepr, q_cLt, q_cLe, q_cGt, q_cGe, q_cEq, q_cNe, q_cEqS, q_cNeS, q_cEqR, q_cNeR, q_cIsN, q_cIsS, q_cIn, q_cNi, q_cInT, q_cNiT] | rfl))) fun row121 =>
  (vb_nilC (b := row121) rfl (Le.se (Le.se (Le.se (Le.se (Le.se (Le.se (Le.se (Le.se (Le.se (Le.se Le.e0 rfl) rfl) rfl) rfl) rfl) rfl) rfl) rfl) rfl) rfl)))))
  fun s6' => (vb_frz 16 rfl (vb_set (ps_set (i := 9) nd rfl (by first | exact Or.inl rfl | exact Or.inr rfl) (ve_eq (m' := (catR s4 ([s6', (s6'.map (fun v124 : Int => (-v124)))] : List (List Int)))) (ve_frz (te_cat (ve_v (pv 9) rfl) (ve_frz (ve_lst (s := .frz) (fun (x : ((List Int) × (List Int) × Unit)) => ([x.1, x.2.1] : List (List Int))) (va_cons (ve_v (pv 16) rfl) (va_cons (ve_frz (te_lc (own := [("_law_item", 19)]) (g := (gN 19)) lcP rfl nd (vi_list (ve_v (pv 16) rfl)) (blkOk_by (N := ["_law_net_here", "_law_state_here", "_law_island", "_law_stations_here", "_law_lines_here", "_law_count", "_law_zero", "_law_places", "_law_k", "_law_rows", "_law_flows", "_law_line", "_law_node", "_law_low", "_law_high", "_law_flow", "_law_row", "_law_sign", "_law_j", "_law_item"]) (sc := defScope s_law_conditions) (by decide +kernel)) (fun _ _ _ _ _ => (vg_name (pg_name (i := 19) nd rfl (by first | exact Or.inl rfl | exact Or.inr rfl)))) (fun _ => rfl) (fun (v124 : Int) _ _ _ _ _ => vts_nil) (fun (v124 : Int) _ _ _ _ _ => (ve_eq (m' := (R.ok (-v124))) (te_neg (ve_v (pv 19) rfl)) (by rfl))))) va_nil)))))) (by first | with_reducible rfl | simp only [R.bind_eta, R.bind_assoc, R.okb, R.exb, R.nob, R.map_eq, q_gInt, q_gIntB, q_gLen, q_gLenT, q_gLenN, q_gAbs, q_gMax2, q_gMin2, q_gGcd, q_gSum, q_gAny, q_gAll, q_gList, q_gListT, q_gTuple, q_gSorted, q_gRepr, q_cLt, q_cLe, q_cGt, q_cGe, q_cEq, q_cNe, q_cEqS, q_cNeS, q_cEqR, q_cNeR, q_cIsN, q_cIsS, q_cIn, q_cNi, q_cInT, q_cNiT] | rfl))) fun rows125 =>
  (vb_nilC (b := rows125) rfl (Le.se (Le.se (Le.se (Le.se (Le.se (Le.se (Le.se (Le.se Le.e0 rfl) rfl) rfl) rfl) rfl) rfl) rfl) rfl)))))))))
  fun s4' => (vb_retP (x := s4') (ps_ret (ve_eq (m' := (R.ok s4')) (ve_v (pv 9) rfl) (by rfl))))))))))))))))

abbrev s_law : Stmt := topS 15
theorem sc_law : FnScope ["_law_script", "_law_net_here", "_law_cell_here", "_law_state_here", "_law_before", "_law_island", "_law_due", "_law_kept", "_law_actual", "_law_again", "_law_k"] ["_law_script"] (defScope s_law) := ⟨rfl, rfl, rfl, by decide +kernel, rfl, by decide +kernel, by decide +kernel⟩
theorem ok_law (B : Bs K mg W) (hW : W.rc.xa = none) {fl : Addr} {fd : FuncData} (Fl : Fun K "law" "law" s_law fl fd) (c_conditions_of : Cal P w K mg base W "conditions_of" 5 (fun a : ((T4 Int (List (T4 Int Int Int Int)) (List (T4 Int Int Int Bool)) (List (Int × Int))) × (T3 (Tu Int) (Tu Int) (Tu Int)) × (List Int) × Unit) => f_conditions_of a.1 a.2.1 a.2.2.1) (.lst (.lst .frz))) (c_law_cell : Cal P w K mg base W "_law_cell" 1 (fun a : ((List Int) × Int × Unit) => f_law_cell a.1 a.2.1) .frz) (c_law_net : Cal P w K mg base W "_law_net" 2 (fun a : (Int × Int × Int × Unit) => f_law_net a.1 a.2.1 a.2.2.1) .frz) (c_law_state : Cal P w K mg base W "_law_state" 3 (fun a : (Int × (T4 Int (List (T4 Int Int Int Int)) (List (T4 Int Int Int Bool)) (List (Int × Int))) × Unit) => f_law_state a.1 a.2.1) .frz) (c_law_islands : Cal P w K mg base W "_law_islands" 1 (fun a : ((T4 Int (List (T4 Int Int Int Int)) (List (T4 Int Int Int Bool)) (List (Int × Int))) × (T3 (Tu Int) (Tu Int) (Tu Int)) × Unit) => f_law_islands a.1 a.2.1) .frz) (c_law_conditions : Cal P w K mg base W "_law_conditions" 2 (fun a : ((T4 Int (List (T4 Int Int Int Int)) (List (T4 Int Int Int Bool)) (List (Int × Int))) × (T3 (Tu Int) (Tu Int) (Tu Int)) × (List Int) × Unit) => f_law_conditions a.1 a.2.1 a.2.2.1) .frz) : FnG P w K mg base 6 fl fd ["_law_script"] (spT K W (fun a : ((List Int) × Unit) => f_law a.1) .frz) :=
  fn_rt Fl sc_law fun cdv Ar outer sh H E hr a => by
    have nd := sc_law.nd
    obtain ⟨script1, _⟩ := a
    exact (show VB (cxOf (L2.CX P w) P w K mg base ["_law_script", "_law_net_here", "_law_cell_here", "_law_state_here", "_law_before", "_law_island", "_law_due", "_law_kept", "_law_actual", "_law_again", "_law_k"] "law" (defScope s_law) fl cdv Ar outer sh H E) W (fun _ => E) (argE 0 [en script1]) (defBody s_law) (f_law script1) (rtOut .frz) from
  (vb_set (ps_set (i := 1) nd rfl (by first | exact Or.inl rfl | exact Or.inr rfl) (ve_eq (m' := ((f_law_cell script1 (0 : Int)).bind fun x2 => (f_law_cell script1 (1 : Int)).bind fun x3 => (f_law_net x2 x3 (6 : Int)))) (ve_call c_law_net hr (pass_fn (takes_of rfl rfl rfl rfl)) (va_cons (ve_call c_law_cell hr (pass_fn (takes_of rfl rfl rfl rfl)) (va_cons (ve_v (pv 0) rfl) (va_cons ve_int va_nil))) (va_cons (ve_call c_law_cell hr (pass_fn (takes_of rfl rfl rfl rfl)) (va_cons (ve_v (pv 0) rfl) (va_cons ve_int va_nil))) (va_cons ve_int va_nil)))) (by first | with_reducible rfl | simp only [R.bind_eta, R.bind_assoc, R.okb, R.exb, R.nob, R.map_eq, q_gInt, q_gIntB, q_gLen, q_gLenT, q_gLenN, q_gAbs, q_gMax2, q_gMin2, q_gGcd, q_gSum, q_gAny, q_gAll, q_gList, q_gListT, q_gTuple, q_gSorted, q_gRepr, q_cLt, q_cLe, q_cGt, q_cGe, q_cEq, q_cNe, q_cEqS, q_cNeS, q_cEqR, q_cNeR, q_cIsN, q_cIsS, q_cIn, q_cNi, q_cInT, q_cNiT] | rfl))) fun net4 =>
  (tb_loop (f := (f_law_l1 net4)) (e := (fun s1 : Unit => (se e0 1 (.vl .fz (en net4))))) (s0 := ()) (g := (gN 2)) (fun _ _ => rfl) (passes_of rfl) rfl (vi_eqm (m' := (catR ([(0 : Int), (1 : Int)] : List Int) (cutL script1 (some (2 : Int)) (some (12 : Int))))) (vi_list (ve_frz (te_cat (ve_frz (ve_lst (s := .frz) (fun (x : (Int × Int × Unit)) => ([x.1, x.2.1] : List Int)) (va_cons ve_int (va_cons ve_int va_nil)))) (ve_frz (vn_sl (ve_v (pv 0) rfl) (vo_some ve_int) (vo_some ve_int)))))) (by first | with_reducible rfl | simp only [R.bind_eta, R.bind_assoc, R.okb, R.exb, R.nob, R.map_eq, q_gInt, q_gIntB, q_gLen, q_gLenT, q_gLenN, q_gAbs, q_gMax2, q_gMin2, q_gGcd, q_gSum, q_gAny, q_gAll, q_gList, q_gListT, q_gTuple, q_gSorted, q_gRepr, q_cLt, q_cLe, q_cGt, q_cGe, q_cEq, q_cNe, q_cEqS, q_cNeS, q_cEqR, q_cNeR, q_cIsN, q_cIsS, q_cIn, q_cNi, q_cInT, q_cNiT] | rfl)) (vg_name (pg_name (i := 2) nd rfl (by first | exact Or.inl rfl | exact Or.inr rfl))) (Le.se Le.e0 rfl)
  (fun x1_ s1 => (vb_set (ps_set (i := 3) nd rfl (by first | exact Or.inl rfl | exact Or.inr rfl) (ve_eq (m' := (f_law_state x1_ net4)) (ve_call c_law_state hr (pass_fn (takes_of rfl rfl rfl rfl)) (va_cons (ve_v (pv 2) rfl) (va_cons (ve_v (pv 1) rfl) va_nil))) (by first | with_reducible rfl | simp only [R.bind_eta, R.bind_assoc, R.okb, R.exb, R.nob, R.map_eq, q_gInt, q_gIntB, q_gLen, q_gLenT, q_gLenN, q_gAbs, q_gMax2, q_gMin2, q_gGcd, q_gSum, q_gAny, q_gAll, q_gList, q_gListT, q_gTuple, q_gSorted, q_gRepr, q_cLt, q_cLe, q_cGt, q_cGe, q_cEq, q_cNe, q_cEqS, q_cNeS, q_cEqR, q_cNeR, q_cIsN, q_cIsS, q_cIn, q_cNi, q_cInT, q_cNiT] | rfl))) fun state6 =>
  (vb_set (ps_set (i := 4) nd rfl (by first | exact Or.inl rfl | exact Or.inr rfl) (ve_eq (m' := (reprR (en ([(en net4), (en state6)] : List D)))) (ve_ca ca_repr gRepr hRepr (pe_callB (cr_repr hr.gds hr.rep) (by rfl) (B.bi "repr" (by decide)) (by decide +kernel) (va_cons (ve_frz (ve_lst (s := .frz) (fun (x : (D × D × Unit)) => ([x.1, x.2.1] : List D)) (va_cons (ve_cast (β := D) en (ve_v (pv 1) rfl)) (va_cons (ve_cast (β := D) en (ve_v (pv 3) rfl)) va_nil)))) va_nil))) (by first | with_reducible rfl | simp only [R.bind_eta, R.bind_assoc, R.okb, R.exb, R.nob, R.map_eq, q_gInt, q_gIntB, q_gLen, q_gLenT, q_gLenN, q_gAbs, q_gMax2, q_gMin2, q_gGcd, q_gSum, q_gAny, q_gAll, q_gList, q_gListT, q_gTuple, q_gSorted, q_gRepr, q_cLt, q_cLe, q_cGt, q_cGe, q_cEq, q_cNe, q_cEqS, q_cNeS, q_cEqR, q_cNeR, q_cIsN, q_cIsS, q_cIn, q_cNi, q_cInT, q_cNiT] | rfl))) fun before7 =>
  (tb_loop (f := (f_law_l2 net4 state6 before7)) (e := (fun s2 : Unit => (se (se (se e0 1 (.vl .fz (en net4))) 3 (.vl .fz (en state6))) 4 (.vl .fz (en before7))))) (s0 := ()) (g := (gN 5)) (fun _ _ => rfl) (passes_of rfl) rfl (vi_eqm (m' := (f_law_islands net4 state6)) (vi_list (ve_call c_law_islands hr (pass_fn (takes_of rfl rfl rfl rfl)) (va_cons (ve_v (pv 1) rfl) (va_cons (ve_v (pv 3) rfl) va_nil)))) (by first | with_reducible rfl | simp only [R.bind_eta, R.bind_assoc, R.okb, R.exb, R.nob, R.map_eq, q_gInt, q_gIntB, q_gLen, q_gLenT, q_gLenN, q_gAbs, q_gMax2, q_gMin2, q_gGcd, q_gSum, q_gAny, q_gAll, q_gList, q_gListT, q_gTuple, q_gSorted, q_gRepr, q_cLt, q_cLe, q_cGt, q_cGe, q_cEq, q_cNe, q_cEqS, q_cNeS, q_cEqR, q_cNeR, q_cIsN, q_cIsS, q_cIn, q_cNi, q_cInT, q_cNiT] | rfl)) (vg_name (pg_name (i := 5) nd rfl (by first | exact Or.inl rfl | exact Or.inr rfl))) (Le.se (Le.se (Le.se Le.e0 rfl) rfl) rfl)
  (fun x2_ s2 => (vb_set (ps_set (i := 6) nd rfl (by first | exact Or.inl rfl | exact Or.inr rfl) (ve_eq (m' := (f_law_conditions net4 state6 x2_)) (ve_call c_law_conditions hr (pass_fn (takes_of rfl rfl rfl rfl)) (va_cons (ve_v (pv 1) rfl) (va_cons (ve_v (pv 3) rfl) (va_cons (ve_v (pv 5) rfl) va_nil)))) (by first | with_reducible rfl | simp only [R.bind_eta, R.bind_assoc, R.okb, R.exb, R.nob, R.map_eq, q_gInt, q_gIntB, q_gLen, q_gLenT, q_gLenN, q_gAbs, q_gMax2, q_gMin2, q_gGcd, q_gSum, q_gAny, q_gAll, q_gList, q_gListT, q_gTuple, q_gSorted, q_gRepr, q_cLt, q_cLe, q_cGt, q_cGe, q_cEq, q_cNe, q_cEqS, q_cNeS, q_cEqR, q_cNeR, q_cIsN, q_cIsS, q_cIn, q_cNi, q_cInT, q_cNiT] | rfl))) fun due'11 =>
  (vb_set (ps_set (i := 7) nd rfl (by first | exact Or.inl rfl | exact Or.inr rfl) (ve_eq (m' := (R.ok x2_)) (ve_frz (vn_ca cn_list gList hList (pe_callTy call_list_of (by rfl) (B.bi "list" (by decide)) (by decide +kernel) (va_cons (ve_v (pv 5) rfl) va_nil)))) (by rfl))) fun kept12 =>
  (vb_setN (ps_set (i := 8) nd rfl (by first | exact Or.inl rfl | exact Or.inr rfl) (ve_eq (m' := (f_conditions_of net4 state6 x2_)) (ve_call c_conditions_of hr (pass_fn (takes_of rfl rfl rfl rfl)) (va_cons (ve_v (pv 1) rfl) (va_cons (ve_v (pv 3) rfl) (va_cons (ve_v (pv 5) rfl) va_nil)))) (by first | with_reducible rfl | simp only [R.bind_eta, R.bind_assoc, R.okb, R.exb, R.nob, R.map_eq, q_gInt, q_gIntB, q_gLen, q_gLenT, q_gLenN, q_gAbs, q_gMax2, q_gMin2, q_gGcd, q_gSum, q_gAny, q_gAll, q_gList, q_gListT, q_gTuple, q_gSorted, q_gRepr, q_cLt, q_cLe, q_cGt, q_cGe, q_cEq, q_cNe, q_cEqS, q_cNeS, q_cEqR, q_cNeR, q_cIsN, q_cIsS, q_cIn, q_cNi, q_cInT, q_cNiT] | rfl))) fun actual13 =>
  (vb_ifA (vt_w (vw_or (vt_eq (t' := R.ok (!true)) (vt_not (vt_eq (t' := (R.ok true)) (vt_val (ve_sc (te_isi (T := "list") (pe_callB call_isi (by rfl) (B.bi "isinstance" (by decide)) (by decide +kernel) (pa_cons (ve_v (pv 8) rfl) (pa_cons (pe_bltn (by rfl) (B.bi "list" (by decide)) (by decide +kernel) rfl) pa_nil)))))) (by rfl))) (by rfl)) (vw_or (vt_all (vt_eq (t' := (R.ok (decide (actual13 ≠ due'11)))) (vt_cmp (op_neA hr.room.units) o2_ne cNe (hNe) (ve_v (pv 8) rfl) (ve_v (pv 6) rfl) (nomark _)) (by rfl))) (vw_or (vt_eq (t' := ((reprR (en actual13)).bind fun x14 => (reprR (en due'11)).bind fun x15 => R.ok (decide (x14 ≠ x15)))) (vt_cmp (op_neA hr.room.units) o2_ne cNeS hNeS (ve_sc (ve_ca ca_repr gRepr hRepr (pe_callB (cr_repr hr.gds hr.rep) (by rfl) (B.bi "repr" (by decide)) (by decide +kernel) (va_cons (ve_v (pv 8) rfl) va_nil)))) (ve_ca ca_repr gRepr hRepr (pe_callB (cr_repr hr.gds hr.rep) (by rfl) (B.bi "repr" (by decide)) (by decide +kernel) (va_cons (ve_v (pv 6) rfl) va_nil))) (nomark _)) (by first | with_reducible rfl | simp only [R.bind_eta, R.bind_assoc, R.okb, R.exb, R.nob, R.map_eq, q_gInt, q_gIntB, q_gLen, q_gLenT, q_gLenN, q_gAbs, q_gMax2, q_gMin2, q_gGcd, q_gSum, q_gAny, q_gAll, q_gList, q_gListT, q_gTuple, q_gSorted, q_gRepr, q_cLt, q_cLe, q_cGt, q_cGe, q_cEq, q_cNe, q_cEqS, q_cNeS, q_cEqR, q_cNeR, q_cIsN, q_cIsS, q_cIn, q_cNi, q_cInT, q_cNiT] | rfl)) (vw_or1 (vt_eq (t' := (R.ok (decide (x2_ ≠ kept12)))) (vt_cmp (op_neA hr.room.units) o2_ne cNe (hNe) (ve_v (pv 5) rfl) (ve_v (pv 7) rfl) (nomark _)) (by rfl)))))))
  (vb_retP (x := false) (ps_ret (ve_eq (m' := (R.ok false)) ve_bl (by rfl))))
  (vb_set (ps_set (i := 9) nd rfl (by first | exact Or.inl rfl | exact Or.inr rfl) (ve_eq (m' := (f_conditions_of net4 state6 x2_)) (ve_frz (ve_call c_conditions_of hr (pass_fn (takes_of rfl rfl rfl rfl)) (va_cons (ve_v (pv 1) rfl) (va_cons (ve_v (pv 3) rfl) (va_cons (ve_v (pv 5) rfl) va_nil))))) (by first | with_reducible rfl | simp only [R.bind_eta, R.bind_assoc, R.okb, R.exb, R.nob, R.map_eq, q_gInt, q_gIntB, q_gLen, q_gLenT, q_gLenN, q_gAbs, q_gMax2, q_gMin2, q_gGcd, q_gSum, q_gAny, q_gAll, q_gList, q_gListT, q_gTuple, q_gSorted, q_gRepr, q_cLt, q_cLe, q_cGt, q_cGe, q_cEq, q_cNe, q_cEqS, q_cNeS, q_cEqR, q_cNeR, q_cIsN, q_cIsS, q_cIn, q_cNi, q_cInT, q_cNiT] | rfl))) fun again16 =>
  (tb_for (f := (f_law_l3 net4 state6 before7 x2_ (due'11) again16)) (e := (fun s3 : (List (List Int)) => (se (se (se (se (se (se (se e0 1 (.vl .fz (en net4))) 3 (.vl .fz (en state6))) 4 (.vl .fz (en before7))) 5 (.vl .fz (en x2_))) 6 (.vl .fz (en due'11))) 8 (.vl (.ow (.lst (.lst .frz)) none) (en s3))) 9 (.vl .fz (en again16))))) (s0 := actual13) (g := (gN 10)) (fun _ _ => rfl) (passes_of rfl) rfl (vi_eqm (m' := (rng1 (actual13.length : Int))) (vi_rng1 (by rfl) (B.bi "range" (by decide)) (va_cons (ve_sc (ve_ca ca_len gLen hLen (pe_callB call_len_seq (by rfl) (B.bi "len" (by decide)) (by decide +kernel) (va_cons (ve_v (pv 8) rfl) va_nil)))) va_nil)) (by first | with_reducible rfl | simp only [R.bind_eta, R.bind_assoc, R.okb, R.exb, R.nob, R.map_eq, q_gInt, q_gIntB, q_gLen, q_gLenT, q_gLenN, q_gAbs, q_gMax2, q_gMin2, q_gGcd, q_gSum, q_gAny, q_gAll, q_gList, q_gListT, q_gTuple, q_gSorted, q_gRepr, q_cLt, q_cLe, q_cGt, q_cGe, q_cEq, q_cNe, q_cEqS, q_cNeS, q_cEqR, q_cNeR, q_cIsN, q_cIsS, q_cIn, q_cNi, q_cInT, q_cNiT] | rfl)) (vg_name (pg_name (i := 10) nd rfl (by first | exact Or.inl rfl | exact Or.inr rfl))) (Le.se (Le.se (Le.se (Le.se (Le.se (Le.se (Le.se Le.e0 rfl) rfl) rfl) rfl) rfl) rfl) rfl)
  (fun x3_ s3 => (tb_app (a := s3) (s2 := .frz) (ps_expr (pe_bm PySem.F.plainAttrs_list PySem.F.slot_list_append PySem.F.type_list_append mt_append (vp_ix (vp_v (pv 8)) (ve_v (pv 10) rfl) (fun _ _ => rfl)) (pa_cons (te_neg (ve_v (pv 10) rfl)) pa_nil))) (by first | with_reducible rfl | simp only [R.bind_eta, R.bind_assoc, R.okb, R.exb, R.nob, R.map_eq, q_gInt, q_gIntB, q_gLen, q_gLenT, q_gLenN, q_gAbs, q_gMax2, q_gMin2, q_gGcd, q_gSum, q_gAny, q_gAll, q_gList, q_gListT, q_gTuple, q_gSorted, q_gRepr, q_cLt, q_cLe, q_cGt, q_cGe, q_cEq, q_cNe, q_cEqS, q_cNeS, q_cEqR, q_cNeR, q_cIsN, q_cIsS, q_cIn, q_cNi, q_cInT, q_cNiT] | rfl) fun actual23 =>
  (vb_nilC (b := actual23) rfl (Le.se (Le.se (Le.se (Le.se (Le.se (Le.se (Le.se Le.e0 rfl) rfl) rfl) rfl) rfl) rfl) rfl))))
  fun s3' => (vb_ifA (vt_eq (t' := (R.ok (decide (again16 ≠ due'11)))) (vt_cmp (op_neA hr.room.units) o2_ne cNe (hNe) (ve_v (pv 9) rfl) (ve_v (pv 6) rfl) (nomark _)) (by rfl))
  (vb_retP (x := false) (ps_ret (ve_eq (m' := (R.ok false)) ve_bl (by rfl))))
  (vb_if (vt_w (vw_or (vt_all (vt_eq (t' := (((rng1 (due'11.length : Int)).bind fun x28 => (noX (mapR (fun v26 : Int => ((ixR due'11 v26).bind fun x27 => (catR x27 ([(-v26)] : List Int)))) x28))).bind fun x29 => R.ok (decide (s3' ≠ x29)))) (vt_cmp (op_neA hr.room.units) o2_ne cNe (hNe) (ve_v (pv 8) rfl) (ve_frz (te_lc (own := [("_law_k", 10)]) (g := (gN 10)) lcM rfl nd (vi_rng1 (by rfl) (B.bi "range" (by decide)) (va_cons (ve_ca ca_len gLen hLen (pe_callB call_len_seq (by rfl) (B.bi "len" (by decide)) (by decide +kernel) (va_cons (ve_v (pv 6) rfl) va_nil))) va_nil)) (blkOk_by (N := ["_law_script", "_law_net_here", "_law_cell_here", "_law_state_here", "_law_before", "_law_island", "_law_due", "_law_kept", "_law_actual", "_law_again", "_law_k"]) (sc := defScope s_law) (by decide +kernel)) (fun _ _ _ _ _ => (vg_name (pg_name (i := 10) nd rfl (by first | exact Or.inl rfl | exact Or.inr rfl)))) (fun _ => rfl) (fun (v26 : Int) _ _ _ _ _ => vts_nil) (fun (v26 : Int) _ _ _ _ _ => (ve_eq (m' := ((ixR due'11 v26).bind fun x27 => (catR x27 ([(-v26)] : List Int)))) (ve_frz (te_cat (te_ixL (ve_v (pv 6) rfl) (ve_v (pv 10) rfl)) (ve_frz (ve_lst (s := .frz) (fun (x : (Int × Unit)) => ([x.1] : List Int)) (va_cons (te_neg (ve_v (pv 10) rfl)) va_nil))))) (by first | with_reducible rfl | simp only [R.bind_eta, R.bind_assoc, R.okb, R.exb, R.nob, R.map_eq, q_gInt, q_gIntB, q_gLen, q_gLenT, q_gLenN, q_gAbs, q_gMax2, q_gMin2, q_gGcd, q_gSum, q_gAny, q_gAll, q_gList, q_gListT, q_gTuple, q_gSorted, q_gRepr, q_cLt, q_cLe, q_cGt, q_cGe, q_cEq, q_cNe, q_cEqS, q_cNeS, q_cEqR, q_cNeR, q_cIsN, q_cIsS, q_cIn, q_cNi, q_cInT, q_cNiT] | rfl))))) (nomark _)) (by first | with_reducible rfl | simp only [R.bind_eta, R.bind_assoc, R.okb, R.exb, R.nob, R.map_eq, q_gInt, q_gIntB, q_gLen, q_gLenT, q_gLenN, q_gAbs, q_gMax2, q_gMin2, q_gGcd, q_gSum, q_gAny, q_gAll, q_gList, q_gListT, q_gTuple, q_gSorted, q_gRepr, q_cLt, q_cLe, q_cGt, q_cGe, q_cEq, q_cNe, q_cEqS, q_cNeS, q_cEqR, q_cNeR, q_cIsN, q_cIsS, q_cIn, q_cNi, q_cInT, q_cNiT] | rfl))) (vw_or (vt_eq (t' := ((f_conditions_of net4 state6 x2_).bind fun x30 => R.ok (decide (x30 ≠ due'11)))) (vt_cmp (op_neA hr.room.units) o2_ne cNe (hNe) (ve_frz (ve_call c_conditions_of hr (pass_fn (takes_of rfl rfl rfl rfl)) (va_cons (ve_v (pv 1) rfl) (va_cons (ve_v (pv 3) rfl) (va_cons (ve_v (pv 5) rfl) va_nil))))) (ve_v (pv 6) rfl) (nomark _)) (by first | with_reducible rfl | simp only [R.bind_eta, R.bind_assoc, R.okb, R.exb, R.nob, R.map_eq, q_gInt, q_gIntB, q_gLen, q_gLenT, q_gLenN, q_gAbs, q_gMax2, q_gMin2, q_gGcd, q_gSum, q_gAny, q_gAll, q_gList, q_gListT, q_gTuple, q_gSorted, q_gRepr, q_cLt, q_cLe, q_cGt, q_cGe, q_cEq, q_cNe, q_cEqS, q_cNeS, q_cEqR, q_cNeR, q_cIsN, q_cIsS, q_cIn, q_cNi, q_cInT, q_cNiT] | rfl)) (vw_or1 (vt_eq (t' := ((reprR (en ([(en net4), (en state6)] : List D))).bind fun x31 => R.ok (decide (x31 ≠ before7)))) (vt_cmp (op_neA hr.room.units) o2_ne cNeS hNeS (ve_ca ca_repr gRepr hRepr (pe_callB (cr_repr hr.gds hr.rep) (by rfl) (B.bi "repr" (by decide)) (by decide +kernel) (va_cons (ve_frz (ve_lst (s := .frz) (fun (x : (D × D × Unit)) => ([x.1, x.2.1] : List D)) (va_cons (ve_cast (β := D) en (ve_v (pv 1) rfl)) (va_cons (ve_cast (β := D) en (ve_v (pv 3) rfl)) va_nil)))) va_nil))) (ve_v (pv 4) rfl) (nomark _)) (by first | with_reducible rfl | simp only [R.bind_eta, R.bind_assoc, R.okb, R.exb, R.nob, R.map_eq, q_gInt, q_gIntB, q_gLen, q_gLenT, q_gLenN, q_gAbs, q_gMax2, q_gMin2, q_gGcd, q_gSum, q_gAny, q_gAll, q_gList, q_gListT, q_gTuple, q_gSorted, q_gRepr, q_cLt, q_cLe, q_cGt, q_cGe, q_cEq, q_cNe, q_cEqS, q_cNeS, q_cEqR, q_cNeR, q_cIsN, q_cIsS, q_cIn, q_cNi, q_cInT, q_cNiT] | rfl))))))
  (vb_retP (x := false) (ps_ret (ve_eq (m' := (R.ok false)) ve_bl (by rfl))))
  (vb_nilC (b := (Lc.nx ())) rfl (Le.se (Le.se (Le.se Le.e0 rfl) rfl) rfl)))))))))))
  fun s2' => (vb_nilC (b := (Lc.nx ())) rfl (Le.se Le.e0 rfl))))))
  fun s1' => (vb_retP (x := true) (ps_ret (ve_eq (m' := (R.ok true)) ve_bl (by rfl)))))))

end
end Lw

set_option Elab.async false
set_option linter.all false
set_option maxRecDepth 100000
set_option maxHeartbeats 4000000
/-! PV: rows as functions of their places. -/
namespace Lw
open PySem Tx
def vec {α : Type} (m : Nat) (f : Nat → α) : List α := (List.range m).map f
section
variable {α β : Type} {m : Nat} {f g : Nat → α}
@[simp] theorem vec_len : (vec m f).length = m := by simp [vec]
theorem vec_get {k : Nat} (h : k < m) : (vec m f)[k]? = some (f k) := by
  unfold vec; rw [List.getElem?_map, List.getElem?_range h]; rfl
theorem vec_ext (h : ∀ j, j < m → f j = g j) : vec m f = vec m g := List.map_congr_left fun j hj => h j (List.mem_range.mp hj)
theorem vec_inj (h : vec m f = vec m g) : ∀ j, j < m → f j = g j := fun j hj => by
  have a := vec_get (f := f) hj
  rw [h, vec_get hj] at a
  exact (Option.some.inj a).symm
theorem vec_map (p : α → β) : (vec m f).map p = vec m fun j => p (f j) := by unfold vec; rw [List.map_map]; rfl
theorem vec_of (l : List α) (d : α) : l = vec l.length fun j => l.getD j d := by
  apply List.ext_getElem?
  intro j
  by_cases h : j < l.length
  · rw [vec_get h, List.getElem?_eq_getElem h, List.getD_eq_getElem?_getD, List.getElem?_eq_getElem h]; rfl
  · rw [List.getElem?_eq_none (by omega), List.getElem?_eq_none (by simp; omega)]
theorem vec_zero (x : α) : List.replicate m x = vec m fun _ => x := by
  unfold vec
  rw [List.map_const']
  simp
theorem vec_set {k : Nat} {x : α} : (vec m f).set k x = vec m fun j => if j = k then x else f j := by
  apply List.ext_getElem?
  intro j
  by_cases h : j < m
  · rw [vec_get h]
    by_cases q : j = k
    · subst q
      rw [List.getElem?_set_self (by simpa using h)]; simp
    · rw [List.getElem?_set_ne (Ne.symm q), vec_get h, if_neg q]
  · rw [List.getElem?_eq_none (by simp; omega), List.getElem?_eq_none (by simp; omega)]
theorem vec_ix {k : Nat} (h : k < m) : ixR (vec m f) (k : Int) = .ok (f k) := ixR_nat (vec_get h)
theorem vec_ixi {i : Int} (h : 0 ≤ i ∧ i < m) : ixR (vec m f) i = .ok (f i.toNat) := by
  obtain ⟨k, rfl⟩ := Int.eq_ofNat_of_zero_le h.1
  exact vec_ix (by omega)
theorem vec_put {k : Nat} {x : α} (h : k < m) : putR (vec m f) (k : Int) x = .ok (vec m fun j => if j = k then x else f j) := by
  rw [putR_nat (by simpa using h), vec_set]
theorem vec_puti {i : Int} {x : α} (h : 0 ≤ i ∧ i < m) : putR (vec m f) i x = .ok (vec m fun j => if j = i.toNat then x else f j) := by
  obtain ⟨k, rfl⟩ := Int.eq_ofNat_of_zero_le h.1
  exact vec_put (by omega)
theorem vec_zip {h : Nat → β} : (vec m f).zip (vec m h) = vec m fun j => (f j, h j) := by
  unfold vec
  rw [List.zip_map', ]
theorem vec_mapR {γ : Type} {p : α → R γ} {q : Nat → γ} (h : ∀ j, j < m → p (f j) = .ok (q j)) : mapR p (vec m f) = .ok (vec m q) := by
  unfold vec
  induction m with
  | zero => rfl
  | succ m ih =>
    have gen : ∀ (xs : List Nat), (∀ j ∈ xs, p (f j) = .ok (q j)) → mapR p (xs.map f) = .ok (xs.map q) := by
      intro xs
      induction xs with
      | nil => intro _; rfl
      | cons x xs ih =>
        intro hx
        show (p (f x)).bind _ = _
        rw [hx x List.mem_cons_self]
        show (mapR p (xs.map f)).bind _ = _
        rw [ih fun y hy => hx y (List.mem_cons_of_mem _ hy)]; rfl
    exact gen _ fun j hj => h j (List.mem_range.mp hj)
theorem vec_mem {x : α} : x ∈ vec m f ↔ ∃ j, j < m ∧ f j = x := by
  unfold vec; simp [List.mem_map]
theorem vec_cons : vec (m + 1) f = f 0 :: vec m fun j => f (j + 1) := by
  unfold vec
  rw [List.range_succ_eq_map, List.map_cons, List.map_map]; rfl
theorem vec_snoc : vec (m + 1) f = vec m f ++ [f m] := by
  unfold vec
  rw [List.range_succ, List.map_append]; rfl
theorem rangeN_vec : rangeN m = vec m fun j => (j : Int) := rfl
end
theorem cut1 {α : Type} (a : α) (l : List α) : cutL (a :: l) (some 1) none = l := by
  have e : sIxV (a :: l).length 0 (some 1) = 1 := by
    simp [sIxV]
  have e2 : sIxV (a :: l).length (a :: l).length none = (a :: l).length := rfl
  unfold cutL
  rw [e, e2]
  show ((a :: l).drop 1).take _ = l
  rw [List.drop_one, List.tail_cons, List.take_of_length_le (by simp)]
theorem enumL_get {α : Type} : ∀ (l : List α) (k i : Nat), (enumL k l)[i]? = l[i]?.map fun x => (((k + i : Nat) : Int), x)
  | [], _, _ => by simp [enumL]
  | a :: l, k, 0 => by simp [enumL]
  | a :: l, k, i + 1 => by
    show (enumL (k + 1) l)[i]? = _
    rw [enumL_get l (k + 1) i]
    simp [Nat.add_assoc, Nat.add_comm 1 i]
theorem enumL_len {α : Type} : ∀ (l : List α) (k : Nat), (enumL k l).length = l.length
  | [], _ => rfl
  | a :: l, k => congrArg (· + 1) (enumL_len l (k + 1))
theorem two_len {α β : Type} {f g : α → β} : ∀ l : List α, (l.map fun x => [f x, g x]).flatten.length = 2 * l.length
  | [] => rfl
  | a :: l => by
    rw [List.map_cons, List.flatten_cons, List.length_append, two_len l]
    simp only [List.length_cons, List.length_nil]; omega
theorem ite_iff {α : Type} {p q : Prop} [Decidable p] [Decidable q] {a b : α} (h : p ↔ q) : (if p then a else b) = if q then a else b := by
  by_cases z : p
  · rw [if_pos z, if_pos (h.mp z)]
  · rw [if_neg z, if_neg (fun w => z (h.mpr w))]
end Lw

set_option Elab.async false
set_option linter.all false
set_option maxRecDepth 100000
set_option maxHeartbeats 4000000
/-! PN: what the laws draw: cells, numbers, nets, states. Over the FX of any law that has them. -/
namespace Lw
open PySem Tx
abbrev Line := T4 Int Int Int Int
abbrev Stat := T4 Int Int Int Bool
abbrev Net := T4 Int (List Line) (List Stat) (List (Int × Int))
abbrev Sta := T3 (Tu Int) (Tu Int) (Tu Int)

theorem cell_ok (ns : List Int) (k : Nat) : f_law_cell ns (k : Int) = .ok (ns.getD k 0) := by
  unfold f_law_cell
  by_cases h : k < ns.length
  · have h' : ((k : Int) < (ns.length : Int)) := by omega
    simp only [decide_eq_true h', iteR_okb, if_true]
    rw [ixR_nat (x := ns[k]) (by simp [h]), List.getD_eq_getElem?_getD, List.getElem?_eq_getElem h]
    rfl
  · have h' : ¬ ((k : Int) < (ns.length : Int)) := by omega
    simp only [decide_eq_false h', iteR_okb]
    rw [List.getD_eq_getElem?_getD, List.getElem?_eq_none (by omega)]
    rfl
theorem draws_turn (fr : Bool) (m : Int) (hm : 0 < m ∧ m < 1073741824) (found : List Int) (rest st : Int) (hl : found.length < 1000) (hr : 0 ≤ rest) :
    ∃ x rest' st', f_law_draws_l1 fr m (found, rest, st) = .ok (found ++ [x], rest', st') ∧ (0 ≤ x ∧ x < m) ∧ 0 ≤ rest' := by
  unfold f_law_draws_l1
  simp only [iteR_okb]
  split
  · refine ⟨rest % m, rest / m, st, ?_, ⟨Int.emod_nonneg _ (by omega), Int.emod_lt_of_pos _ hm.1⟩, Int.ediv_nonneg hr (by omega)⟩
    simp only [modR_p hm.1, divR_p hm.1 hm.2, R.okb]
    rw [appR_ok (by omega)]
    rfl
  · have e1 : ∀ i : Int, mulR i 48271 = .ok (i * 48271) := fun i => mulR_r (by decide)
    have e2 : ∀ i : Int, mulR i 69621 = .ok (i * 69621) := fun i => mulR_r (by decide)
    have e3 : ∀ i : Int, modR i 2147483647 = .ok (i % 2147483647) := fun i => modR_p (by decide)
    have e4 : ∀ i : Int, divR i 13 = .ok (i / 13) := fun i => divR_p (by decide) (by decide)
    simp only [e1, e2, e3, e4, R.okb, modR_p hm.1]
    rw [appR_ok (by omega)]
    exact ⟨_, _, _, rfl, ⟨Int.emod_nonneg _ (by omega), Int.emod_lt_of_pos _ hm.1⟩, hr⟩
theorem draws_ok (c : Int) (ls : List Int) (h : ∀ m ∈ ls, 0 < m ∧ m < 1073741824) (hl : ls.length ≤ 1000) : ∃ l, f_law_draws c ls = .ok l ∧ InR l ls := by
  unfold f_law_draws
  have e3 : ∀ i : Int, modR i 2147483647 = .ok (i % 2147483647) := fun i => modR_p (by decide)
  simp only [R.okb, e3, pow18]
  have : ∃ b, orR (R.ok (decide (c < 0))) (R.ok (decide (1000000000000000000 ≤ c))) = .ok b := ⟨_, orR_ok _ _⟩
  obtain ⟨b, hb⟩ := this
  rw [hb]
  simp only [R.okb]
  obtain ⟨s', e, hI⟩ := forR_inv (f := f_law_draws_l1 b) (xs := ls) (s := ([], absI c, absI c % 2147483647)) (fun i s => InR s.1 (ls.take i) ∧ 0 ≤ s.2.1) ⟨trivial, by rw [absI_eq]; show (0 : Int) ≤ (c.natAbs : Int); omega⟩ fun i m s hm ⟨h1, h2⟩ => by
    have hi := (List.getElem?_eq_some_iff.mp hm).1
    have hlen := h1.len
    rw [List.length_take] at hlen
    obtain ⟨x, r, t, e, hx, hr⟩ := draws_turn b m (h m (List.mem_of_getElem? hm)) s.1 s.2.1 s.2.2 (by omega) h2
    refine ⟨_, e, ?_, hr⟩
    rw [List.take_add_one, hm]
    exact h1.snoc hx
  rw [e]
  exact ⟨s'.1, rfl, by rw [List.take_length] at hI; exact hI.1⟩

/-! ### nets -/
structure LineOk (n : Int) (x : Line) : Prop where
  a : 0 ≤ x.a ∧ x.a < x.b ∧ x.b < n
  s : 1 ≤ x.c ∧ x.c ≤ 1000
  l : 0 ≤ x.d ∧ x.d ≤ 1000
structure StatOk (n : Int) (x : Stat) : Prop where
  a : 0 ≤ x.a ∧ x.a < n
  l : 0 ≤ x.b ∧ x.b ≤ x.c ∧ x.c ≤ 1000
structure LoadOk (n : Int) (x : Int × Int) : Prop where
  a : 0 ≤ x.1 ∧ x.1 < n
  l : 1 ≤ x.2 ∧ x.2 ≤ 1000
/-- a net as the laws draw it: of at most m nodes -/
structure NetOk (m : Int) (N : Net) : Prop where
  n : 1 ≤ N.a ∧ N.a ≤ m
  ls : ∀ x ∈ N.b, LineOk N.a x
  ss : ∀ x ∈ N.c, StatOk N.a x
  ds : ∀ x ∈ N.d, LoadOk N.a x
  l1 : N.b.length ≤ 8
  l2 : N.c.length ≤ 4
  l3 : N.d.length ≤ 4
theorem mem_app1 {α : Type} {p : α → Prop} {xs : List α} {a : α} (h : ∀ x ∈ xs, p x) (ha : p a) : ∀ x ∈ xs ++ [a], p x := fun x hx => by
  rcases List.mem_append.mp hx with h' | h'
  · exact h x h'
  · rw [List.mem_singleton.mp h']; exact ha
theorem net_l1 (dr : List Int) (n : Int) (w : Bool) (ps : List Int) (hn : 1 ≤ n ∧ n ≤ 1000) (i : Nat) (hi : i < ps.length) (s : List Line) (hs : ∀ x ∈ s, LineOk n x) (hl : s.length ≤ i) (hi2 : i ≤ 1000) :
    ∃ s', f_law_net_l1 dr n w ps (i : Int) s = .ok s' ∧ (∀ x ∈ s', LineOk n x) ∧ s'.length ≤ i + 1 := by
  unfold f_law_net_l1
  rw [ixR_nat (x := ps[i]) (by simp [hi])]
  obtain ⟨l, e, hl'⟩ := draws_ok ps[i] [n, n, 3, 12, 1000, 1001] (by simp; omega) (by simp)
  simp only [R.okb, e]
  match l, hl' with
  | [a, b, c, d, e, f], ⟨ha, hb, hc, hd, he, hf, _⟩ =>
    have g0 : ixR [a, b, c, d, e, f] 0 = .ok a := rfl
    have g1 : ixR [a, b, c, d, e, f] 1 = .ok b := rfl
    have g2 : ixR [a, b, c, d, e, f] 2 = .ok c := rfl
    have g3 : ixR [a, b, c, d, e, f] 3 = .ok d := rfl
    have g4 : ixR [a, b, c, d, e, f] 4 = .ok e := rfl
    have g5 : ixR [a, b, c, d, e, f] 5 = .ok f := rfl
    simp only [g0, g1, g2, g3, g4, g5, R.okb, iteR_okb]
    split
    · rename_i hne
      have hne : a ≠ b := by simpa using hne
      have hab : 0 ≤ min a b ∧ min a b < max a b ∧ max a b < n := by omega
      cases w with
      | false =>
        have gx : ixR [(1 + c, d), (1 + e, f)] 0 = .ok (1 + c, d) := rfl
        simp only [Bool.false_eq_true, if_false, gx, R.okb]
        rw [appR_ok (by omega)]
        refine ⟨_, rfl, mem_app1 hs ⟨by rw [min2_eq, max2_eq]; exact hab, ?_, ?_⟩, by simp; omega⟩
        · show 1 ≤ 1 + c ∧ 1 + c ≤ 1000; omega
        · show 0 ≤ d ∧ d ≤ 1000; omega
      | true =>
        have gx : ixR [(1 + c, d), (1 + e, f)] 1 = .ok (1 + e, f) := rfl
        simp only [if_true, gx, R.okb]
        rw [appR_ok (by omega)]
        refine ⟨_, rfl, mem_app1 hs ⟨by rw [min2_eq, max2_eq]; exact hab, ?_, ?_⟩, by simp; omega⟩
        · show 1 ≤ 1 + e ∧ 1 + e ≤ 1000; omega
        · show 0 ≤ f ∧ f ≤ 1000; omega
    · exact ⟨s, rfl, hs, by omega⟩
theorem net_l2 (dr : List Int) (n : Int) (w : Bool) (ln : List Line) (ps : List Int) (hn : 1 ≤ n ∧ n ≤ 1000) (i : Nat) (hi : 7 + i < ps.length) (s : List Stat) (hs : ∀ x ∈ s, StatOk n x) (hl : s.length ≤ i) (hi2 : i ≤ 1000) :
    ∃ s', f_law_net_l2 dr n w ln ps (i : Int) s = .ok s' ∧ (∀ x ∈ s', StatOk n x) ∧ s'.length ≤ i + 1 := by
  unfold f_law_net_l2
  rw [show (7 : Int) + (i : Int) = ((7 + i : Nat) : Int) by omega, ixR_nat (x := ps[7 + i]) (by simp [hi])]
  obtain ⟨l, e, hl'⟩ := draws_ok ps[7 + i] [n, 6, 12, 3, 1001, 1001] (by simp; omega) (by simp)
  simp only [R.okb, e]
  match l, hl' with
  | [a, b, c, d, e, f], ⟨ha, hb, hc, hd, he, hf, _⟩ =>
    have g0 : ixR [a, b, c, d, e, f] 0 = .ok a := rfl
    have g1 : ixR [a, b, c, d, e, f] 1 = .ok b := rfl
    have g2 : ixR [a, b, c, d, e, f] 2 = .ok c := rfl
    have g3 : ixR [a, b, c, d, e, f] 3 = .ok d := rfl
    have g4 : ixR [a, b, c, d, e, f] 4 = .ok e := rfl
    have g5 : ixR [a, b, c, d, e, f] 5 = .ok f := rfl
    simp only [g0, g1, g2, g3, g4, g5, R.okb]
    cases w with
    | false =>
      have gx : ∀ z : Int × Int, ixR [(b, b + c), z] 0 = .ok (b, b + c) := fun _ => rfl
      simp only [Bool.false_eq_true, if_false, gx, R.okb]
      rw [appR_ok (by omega)]
      refine ⟨_, rfl, mem_app1 hs ⟨?_, ?_⟩, by simp; omega⟩
      · show 0 ≤ a ∧ a < n; omega
      · show 0 ≤ b ∧ b ≤ b + c ∧ b + c ≤ 1000; omega
    | true =>
      have gx : ∀ z y : Int × Int, ixR [z, y] 1 = .ok y := fun _ _ => rfl
      simp only [if_true, gx, R.okb]
      rw [appR_ok (by omega)]
      refine ⟨_, rfl, mem_app1 hs ⟨?_, ?_⟩, by simp; omega⟩
      · show 0 ≤ a ∧ a < n; omega
      · show 0 ≤ min2 e f ∧ min2 e f ≤ max2 e f ∧ max2 e f ≤ 1000
        rw [min2_eq, max2_eq]; omega
theorem net_l3 (n : Int) (w : Bool) (ln : List Line) (ps : List Int) (ss : List Stat) (hn : 1 ≤ n ∧ n ≤ 1000) (i : Nat) (hi : 11 + i < ps.length) (s : List (Int × Int)) (hs : ∀ x ∈ s, LoadOk n x) (hl : s.length ≤ i) (hi2 : i ≤ 1000) :
    ∃ s', f_law_net_l3 n w ln ps ss (i : Int) s = .ok s' ∧ (∀ x ∈ s', LoadOk n x) ∧ s'.length ≤ i + 1 := by
  unfold f_law_net_l3
  rw [show (11 : Int) + (i : Int) = ((11 + i : Nat) : Int) by omega, ixR_nat (x := ps[11 + i]) (by simp [hi])]
  obtain ⟨l, e, hl'⟩ := draws_ok ps[11 + i] [n, 9, 1000] (by simp; omega) (by simp)
  simp only [R.okb, e]
  match l, hl' with
  | [a, b, c], ⟨ha, hb, hc, _⟩ =>
    have g0 : ixR [a, b, c] 0 = .ok a := rfl
    have g1 : ixR [a, b, c] 1 = .ok b := rfl
    have g2 : ixR [a, b, c] 2 = .ok c := rfl
    simp only [g0, g1, g2, R.okb]
    cases w with
    | false =>
      have gx : ixR [1 + b, 1 + c] 0 = .ok (1 + b) := rfl
      simp only [Bool.false_eq_true, if_false, gx, R.okb]
      rw [appR_ok (by omega)]
      exact ⟨_, rfl, mem_app1 hs ⟨ha, by show 1 ≤ 1 + b ∧ 1 + b ≤ 1000; omega⟩, by simp; omega⟩
    | true =>
      have gx : ixR [1 + b, 1 + c] 1 = .ok (1 + c) := rfl
      simp only [if_true, gx, R.okb]
      rw [appR_ok (by omega)]
      exact ⟨_, rfl, mem_app1 hs ⟨ha, by show 1 ≤ 1 + c ∧ 1 + c ≤ 1000; omega⟩, by simp; omega⟩
theorem net_ok (c m : Int) (most : Int) (hm : 1 ≤ most ∧ most ≤ 8) : ∃ N, f_law_net c m most = .ok N ∧ NetOk most N := by
  unfold f_law_net
  obtain ⟨l, e, hl⟩ := draws_ok c [most, 7, 4, 4, 3] (by simp; omega) (by simp)
  have e15 : repR [(1000000 : Int)] 15 = .ok (List.replicate 15 1000000) := repR_one (k := 15) (by decide)
  obtain ⟨ps, e2, hps⟩ := draws_ok m (List.replicate 15 1000000) (by intro x hx; rw [(List.mem_replicate.mp hx).2]; decide) (by simp)
  have pl := hps.len
  rw [List.length_replicate] at pl
  simp only [e, R.okb, pow6, e15, e2]
  match l, hl with
  | [d0, d1, d2, d3, d4], ⟨h0, h1, h2, h3, h4, _⟩ =>
    have g0 : ixR [d0, d1, d2, d3, d4] 0 = .ok d0 := rfl
    have g1 : ixR [d0, d1, d2, d3, d4] 1 = .ok d1 := rfl
    have g2 : ixR [d0, d1, d2, d3, d4] 2 = .ok d2 := rfl
    have g3 : ixR [d0, d1, d2, d3, d4] 3 = .ok d3 := rfl
    have g4 : ixR [d0, d1, d2, d3, d4] 4 = .ok d4 := rfl
    simp only [g0, g1, g2, g3, g4, R.okb]
    have hn : 1 ≤ 1 + d0 ∧ 1 + d0 ≤ 1000 := by omega
    rw [rng1_int h1.1 (by omega), rng1_int h2.1 (by omega), rng1_int h3.1 (by omega)]
    simp only [R.okb]
    obtain ⟨s1, q1, r1, r1l⟩ := forR_inv (f := f_law_net_l1 [d0, d1, d2, d3, d4] (1 + d0) (decide (d4 = 0)) ps) (xs := rangeN d1.toNat) (s := []) (fun i s => (∀ x ∈ s, LineOk (1 + d0) x) ∧ s.length ≤ i) ⟨by simp, by simp⟩ fun i x s hx ⟨ha, hb⟩ => by
      rw [rangeN_get] at hx
      split at hx
      · cases hx
        exact net_l1 _ _ _ ps hn i (by omega) s ha hb (by omega)
      · cases hx
    rw [q1]; simp only [R.okb]
    obtain ⟨s2, q2, r2, r2l⟩ := forR_inv (f := f_law_net_l2 [d0, d1, d2, d3, d4] (1 + d0) (decide (d4 = 0)) s1 ps) (xs := rangeN d2.toNat) (s := []) (fun i s => (∀ x ∈ s, StatOk (1 + d0) x) ∧ s.length ≤ i) ⟨by simp, by simp⟩ fun i x s hx ⟨ha, hb⟩ => by
      rw [rangeN_get] at hx
      split at hx
      · cases hx
        exact net_l2 _ _ _ _ ps hn i (by omega) s ha hb (by omega)
      · cases hx
    rw [q2]; simp only [R.okb]
    obtain ⟨s3, q3, r3, r3l⟩ := forR_inv (f := f_law_net_l3 (1 + d0) (decide (d4 = 0)) s1 ps s2) (xs := rangeN d3.toNat) (s := []) (fun i s => (∀ x ∈ s, LoadOk (1 + d0) x) ∧ s.length ≤ i) ⟨by simp, by simp⟩ fun i x s hx ⟨ha, hb⟩ => by
      rw [rangeN_get] at hx
      split at hx
      · cases hx
        exact net_l3 _ _ _ ps _ hn i (by omega) s ha hb (by omega)
      · cases hx
    rw [q3]
    rw [rangeN_len] at r1l r2l r3l
    exact ⟨_, rfl, ⟨by show 1 ≤ 1 + d0 ∧ 1 + d0 ≤ most; omega, r1, r2, r3, by show s1.length ≤ 8; omega, by show s2.length ≤ 4; omega, by show s3.length ≤ 4; omega⟩⟩

/-! ### states -/
/-- ascending indexes below n -/
structure IxOk (n : Nat) (l : List Int) : Prop where
  up : l.Pairwise (· < ·)
  lt : ∀ x ∈ l, 0 ≤ x ∧ x < n
structure StaOk (N : Net) (s : Sta) : Prop where
  c : IxOk N.b.length s.a.l
  r : IxOk N.c.length s.b.l
  f : IxOk N.d.length s.c.l
theorem rangeN_up (n : Nat) : (rangeN n).Pairwise (· < ·) := by
  unfold rangeN
  rw [List.pairwise_map]
  exact List.pairwise_lt_range.imp fun h => by omega
theorem some_ok (c : Int) (n : Nat) (o : Int) (hn : n ≤ 100) : ∃ l, f_law_some c (n : Int) o = .ok ⟨l⟩ ∧ IxOk n l := by
  unfold f_law_some
  obtain ⟨dr, e, hd⟩ := draws_ok c (List.replicate n 5) (by intro x hx; rw [(List.mem_replicate.mp hx).2]; decide) (by simp; omega)
  have dl := hd.len
  rw [List.length_replicate] at dl
  rw [repR_one (by omega), rng1_nat (by omega)]
  simp only [R.okb, e]
  rw [fmapR_of (p := fun v => decide (dr.getD v.toNat 0 < o)) (g := fun v => v) (fun x hx => ?_) (fun x _ _ => rfl)]
  · refine ⟨_, rfl, ⟨?_, fun x hx => ?_⟩⟩
    · rw [List.map_id']
      exact (rangeN_up n).filter _
    · rw [List.map_id'] at hx
      exact rangeN_mem.mp (List.mem_filter.mp hx).1
  · have := rangeN_mem.mp hx
    rw [ixR_D 0 this.1 (by omega)]
    rfl
theorem state_ok (c : Int) (N : Net) (h : N.b.length ≤ 8 ∧ N.c.length ≤ 4 ∧ N.d.length ≤ 4) : ∃ s, f_law_state c N = .ok s ∧ StaOk N s := by
  unfold f_law_state
  obtain ⟨l, e, hl⟩ := draws_ok c [1000000, 1000000, 1000000, 4] (by simp) (by simp)
  simp only [pow6, R.okb, e]
  match l, hl with
  | [a, b, c, d], ⟨ha, hb, hc, hd, _⟩ =>
    have g0 : ixR [a, b, c, d] 0 = .ok a := rfl
    have g1 : ixR [a, b, c, d] 1 = .ok b := rfl
    have g2 : ixR [a, b, c, d] 2 = .ok c := rfl
    have g3 : ixR [a, b, c, d] 3 = .ok d := rfl
    rw [g3]; simp only [R.okb]
    rw [ixR_D 0 hd.1 (by simp; omega), g0, g1, g2]
    simp only [R.okb]
    obtain ⟨x, q1, k1⟩ := some_ok a N.b.length (([4, 3, 4, 2] : List Int).getD d.toNat 0) (by omega)
    obtain ⟨y, q2, k2⟩ := some_ok b N.c.length (([4, 3, 4, 2] : List Int).getD d.toNat 0) (by omega)
    obtain ⟨z, q3, k3⟩ := some_ok c N.d.length 2 (by omega)
    rw [q1, q2, q3]
    exact ⟨_, rfl, ⟨k1, k2, k3⟩⟩
end Lw

set_option Elab.async false
set_option linter.all false
set_option maxRecDepth 100000
set_option maxHeartbeats 8000000
/-! PI: islands, the plain side. -/
namespace Lw
open PySem Tx

abbrev Ed := List (Int × Int)
def stepM (M : Int → Int) (e : Int × Int) : Int → Int := fun v => if M v = max (M e.1) (M e.2) then min (M e.1) (M e.2) else M v
def marks (E : Ed) : Int → Int := E.foldl stepM id
/-- what the marks keep -/
structure MkOk (E : Ed) (M : Int → Int) : Prop where
  comp : ∀ e ∈ E, M e.1 = M e.2
  any : ∀ f : Int → Int, (∀ e ∈ E, f e.1 = f e.2) → ∀ v, f (M v) = f v
  le : ∀ v, M v ≤ v
  nn : ∀ v, 0 ≤ v → 0 ≤ M v
theorem stepM_ok {E : Ed} {M : Int → Int} (h : MkOk E M) (e : Int × Int) (he : 0 ≤ e.1 ∧ 0 ≤ e.2) : MkOk (E ++ [e]) (stepM M e) := by
  have hl : ∀ f : Int → Int, (∀ x ∈ E ++ [e], f x.1 = f x.2) → f (min (M e.1) (M e.2)) = f e.1 ∧ f (max (M e.1) (M e.2)) = f e.1 := fun f hf => by
    have a := h.any f (fun x hx => hf x (by simp [hx]))
    have b := hf e (by simp)
    have a1 := a e.1
    have a2 := a e.2
    constructor
    · rcases Int.le_total (M e.1) (M e.2) with q | q
      · rw [Int.min_eq_left q, a1]
      · rw [Int.min_eq_right q, a2, b]
    · rcases Int.le_total (M e.1) (M e.2) with q | q
      · rw [Int.max_eq_right q, a2, b]
      · rw [Int.max_eq_left q, a1]
  refine ⟨fun x hx => ?_, fun f hf v => ?_, fun v => ?_, fun v hv => ?_⟩
  · rcases List.mem_append.mp hx with hx | hx
    · have := h.comp x hx
      unfold stepM
      rw [this]
    · rw [List.mem_singleton.mp hx]
      unfold stepM
      split <;> split <;> omega
  · have a := h.any f (fun x hx => hf x (by simp [hx])) v
    obtain ⟨l1, l2⟩ := hl f hf
    unfold stepM
    split
    · rename_i q
      rw [l1, ← l2, ← q, a]
    · exact a
  · have := h.le v
    unfold stepM
    split <;> omega
  · have a := h.nn v hv
    have b := h.nn e.1 he.1
    have c := h.nn e.2 he.2
    unfold stepM
    split <;> omega
theorem marks_ok (E : Ed) (h : ∀ e ∈ E, 0 ≤ e.1 ∧ 0 ≤ e.2) : MkOk E (marks E) := by
  have gen : ∀ (R P : Ed) (M : Int → Int), MkOk P M → (∀ e ∈ R, 0 ≤ e.1 ∧ 0 ≤ e.2) → MkOk (P ++ R) (R.foldl stepM M) := by
    intro R
    induction R with
    | nil => intro P M k _; simpa using k
    | cons e R ih =>
      intro P M k hR
      have := ih (P ++ [e]) (stepM M e) (stepM_ok k e (hR e (by simp))) (fun x hx => hR x (by simp [hx]))
      simpa using this
  have := gen E [] id ⟨by simp, fun f _ v => rfl, fun v => Int.le_refl v, fun v hv => hv⟩ h
  rw [List.nil_append] at this
  exact this
/-! ### the islands -/
def islOf (n : Nat) (M : Int → Int) (m : Int) : List Int := ((List.range n).filter fun v : Nat => M (v : Int) == m).map fun v : Nat => (v : Int)
def islL (n : Nat) (M : Int → Int) : List (List Int) := ((List.range n).filter fun m : Nat => M (m : Int) == (m : Int)).map fun m : Nat => islOf n M (m : Int)
theorem mem_islOf {n : Nat} {M : Int → Int} {m u : Int} : u ∈ islOf n M m ↔ 0 ≤ u ∧ u < n ∧ M u = m := by
  unfold islOf
  simp only [List.mem_map, List.mem_filter, List.mem_range, beq_iff_eq]
  constructor
  · rintro ⟨v, ⟨h1, h2⟩, rfl⟩
    exact ⟨by omega, by omega, h2⟩
  · rintro ⟨h1, h2, h3⟩
    obtain ⟨v, rfl⟩ := Int.eq_ofNat_of_zero_le h1
    exact ⟨v, ⟨by omega, h3⟩, rfl⟩
theorem islOf_pw {n : Nat} {M : Int → Int} {m : Int} : (islOf n M m).Pairwise (· < ·) := by
  unfold islOf
  rw [List.pairwise_map]
  refine List.Pairwise.imp ?_ ((List.pairwise_lt_range (n := n)).filter _)
  intro a b h
  omega
theorem MkOk.idem {E : Ed} {M : Int → Int} (h : MkOk E M) (v : Int) : M (M v) = M v := h.any M h.comp v
/-- two ascending lists with the same members are the same -/
theorem pw_ext : ∀ {a b : List Int}, a.Pairwise (· < ·) → b.Pairwise (· < ·) → (∀ x, x ∈ a ↔ x ∈ b) → a = b
  | [], [], _, _, _ => rfl
  | [], y :: r, _, _, h => by have := (h y).mpr (by simp); simp at this
  | x :: r, [], _, _, h => by have := (h x).mp (by simp); simp at this
  | x :: r, y :: t, ha, hb, h => by
    obtain ⟨a1, a2⟩ := List.pairwise_cons.mp ha
    obtain ⟨b1, b2⟩ := List.pairwise_cons.mp hb
    have e : x = y := by
      rcases List.mem_cons.mp ((h x).mp (by simp)) with q | q
      · exact q
      · rcases List.mem_cons.mp ((h y).mpr (by simp)) with z | z
        · exact z.symm
        · have := b1 x q
          have := a1 y z
          omega
    subst e
    congr 1
    refine pw_ext a2 b2 fun z => ⟨fun hz => ?_, fun hz => ?_⟩
    · rcases List.mem_cons.mp ((h z).mp (by simp [hz])) with q | q
      · have := a1 z hz
        omega
      · exact q
    · rcases List.mem_cons.mp ((h z).mpr (by simp [hz])) with q | q
      · have := b1 z hz
        omega
      · exact q
/-! ### the law's way: passes over the edges -/
def ps1 (I : List Int) (e : Int × Int) : List Int := if e.1 ∈ I ∧ e.2 ∉ I then I ++ [e.2] else I
def ps2 (I : List Int) (e : Int × Int) : List Int := if e.2 ∈ I ∧ e.1 ∉ I then I ++ [e.1] else I
def ps (I : List Int) (e : Int × Int) : List Int := ps2 (ps1 I e) e
def pass (E : Ed) (I : List Int) : List Int := E.foldl ps I
/-- a part of an island, on the way -/
structure Grow (n : Nat) (M : Int → Int) (k : Int) (I : List Int) : Prop where
  has : k ∈ I
  nd : I.Nodup
  all : ∀ u ∈ I, 0 ≤ u ∧ u < n ∧ M u = M k
theorem ps1_grow {n : Nat} {M : Int → Int} {k : Int} {I : List Int} {e : Int × Int} (h : Grow n M k I) (he : 0 ≤ e.2 ∧ e.2 < n) (hm : M e.1 = M e.2) : Grow n M k (ps1 I e) := by
  unfold ps1
  split
  · rename_i q
    refine ⟨by simp [h.has], ?_, fun u hu => ?_⟩
    · rw [List.nodup_append]
      exact ⟨h.nd, by simp, fun a ha b hb => by rw [List.mem_singleton.mp hb]; exact fun z => q.2 (z ▸ ha)⟩
    · rcases List.mem_append.mp hu with hu | hu
      · exact h.all u hu
      · rw [List.mem_singleton.mp hu]
        exact ⟨he.1, he.2, by rw [← hm]; exact (h.all _ q.1).2.2⟩
  · exact h
theorem ps2_eq (I : List Int) (e : Int × Int) : ps2 I e = ps1 I (e.2, e.1) := rfl
theorem ps_grow {n : Nat} {M : Int → Int} {k : Int} {I : List Int} {e : Int × Int} (h : Grow n M k I) (h1 : 0 ≤ e.1 ∧ e.1 < n) (h2 : 0 ≤ e.2 ∧ e.2 < n) (hm : M e.1 = M e.2) : Grow n M k (ps I e) := by
  unfold ps
  rw [ps2_eq]
  exact ps1_grow (ps1_grow h h2 hm) h1 hm.symm
theorem ps1_len (I : List Int) (e : Int × Int) : I.length ≤ (ps1 I e).length ∧ ((ps1 I e).length = I.length → ps1 I e = I ∧ (e.1 ∈ I → e.2 ∈ I)) := by
  unfold ps1
  split
  · simp
  · rename_i q
    exact ⟨Nat.le_refl _, fun _ => ⟨rfl, fun z => Classical.byContradiction fun w => q ⟨z, w⟩⟩⟩
theorem ps_len (I : List Int) (e : Int × Int) : I.length ≤ (ps I e).length ∧ ((ps I e).length = I.length → ps I e = I ∧ (e.1 ∈ I ↔ e.2 ∈ I)) := by
  obtain ⟨a1, a2⟩ := ps1_len I e
  obtain ⟨b1, b2⟩ := ps1_len (ps1 I e) (e.2, e.1)
  unfold ps
  rw [ps2_eq]
  refine ⟨by omega, fun z => ?_⟩
  obtain ⟨c1, c2⟩ := a2 (by omega)
  obtain ⟨d1, d2⟩ := b2 (by omega)
  rw [c1] at d1 d2 ⊢
  exact ⟨d1, c2, d2⟩
theorem pass_len : ∀ (E : Ed) (I : List Int), I.length ≤ (pass E I).length ∧ ((pass E I).length = I.length → pass E I = I ∧ ∀ e ∈ E, (e.1 ∈ I ↔ e.2 ∈ I))
  | [], I => ⟨Nat.le_refl _, fun _ => ⟨rfl, by simp⟩⟩
  | e :: E, I => by
    obtain ⟨a1, a2⟩ := ps_len I e
    obtain ⟨b1, b2⟩ := pass_len E (ps I e)
    have q : pass (e :: E) I = pass E (ps I e) := rfl
    rw [q]
    refine ⟨by omega, fun z => ?_⟩
    obtain ⟨c1, c2⟩ := a2 (by omega)
    obtain ⟨d1, d2⟩ := b2 (by omega)
    rw [c1] at d1 d2 ⊢
    refine ⟨d1, fun x hx => ?_⟩
    rcases List.mem_cons.mp hx with rfl | hx
    · exact c2
    · exact d2 x hx
theorem pass_grow {n : Nat} {M : Int → Int} {k : Int} : ∀ (E : Ed) (I : List Int), Grow n M k I → (∀ e ∈ E, (0 ≤ e.1 ∧ e.1 < n) ∧ (0 ≤ e.2 ∧ e.2 < n) ∧ M e.1 = M e.2) → Grow n M k (pass E I)
  | [], I, h, _ => h
  | e :: E, I, h, hE => by
    obtain ⟨h1, h2, h3⟩ := hE e (by simp)
    exact pass_grow E (ps I e) (ps_grow h h1 h2 h3) fun x hx => hE x (by simp [hx])
def passes (E : Ed) : Nat → List Int → List Int
  | 0, I => I
  | j + 1, I => pass E (passes E j I)
theorem nodup_le : ∀ {n : Nat} {I : List Int}, I.Nodup → (∀ u ∈ I, 0 ≤ u ∧ u < n) → I.length ≤ n
  | 0, [], _, _ => Nat.le_refl _
  | 0, x :: r, _, a => by
    have := a x (by simp)
    omega
  | n + 1, I, h, a => by
    by_cases q : (n : Int) ∈ I
    · have := nodup_le (n := n) (h.erase (n : Int)) fun u hu => by
        obtain ⟨u1, u2⟩ := (List.Nodup.mem_erase_iff h).mp hu
        have := a u u2
        omega
      rw [List.length_erase_of_mem q] at this
      omega
    · have := nodup_le (n := n) h fun u hu => by
        have := a u hu
        have : u ≠ (n : Int) := fun z => q (z ▸ hu)
        omega
      omega
theorem passes_grow {n : Nat} {M : Int → Int} {k : Int} {E : Ed} (hE : ∀ e ∈ E, (0 ≤ e.1 ∧ e.1 < n) ∧ (0 ≤ e.2 ∧ e.2 < n) ∧ M e.1 = M e.2) {I : List Int} (h : Grow n M k I) : ∀ j, Grow n M k (passes E j I)
  | 0 => h
  | j + 1 => pass_grow E _ (passes_grow hE h j) hE
theorem passes_closed {n : Nat} {M : Int → Int} {k : Int} {E : Ed} (hE : ∀ e ∈ E, (0 ≤ e.1 ∧ e.1 < n) ∧ (0 ≤ e.2 ∧ e.2 < n) ∧ M e.1 = M e.2) (h : Grow n M k [k]) : ∀ e ∈ E, (e.1 ∈ passes E n [k] ↔ e.2 ∈ passes E n [k]) := by
  have key : ∀ j, (∀ e ∈ E, (e.1 ∈ passes E j [k] ↔ e.2 ∈ passes E j [k])) ∨ j + 1 ≤ (passes E j [k]).length := by
    intro j
    induction j with
    | zero => exact .inr (by simp [passes])
    | succ j ih =>
      obtain ⟨a1, a2⟩ := pass_len E (passes E j [k])
      by_cases q : (pass E (passes E j [k])).length = (passes E j [k]).length
      · obtain ⟨b1, b2⟩ := a2 q
        left
        show ∀ e ∈ E, (e.1 ∈ pass E (passes E j [k]) ↔ e.2 ∈ pass E (passes E j [k]))
        rw [b1]
        exact b2
      · rcases ih with ih | ih
        · have same : ∀ (F : Ed), (∀ e ∈ F, e ∈ E) → pass F (passes E j [k]) = passes E j [k] := by
            intro F
            induction F with
            | nil => intro _; rfl
            | cons e F ihF =>
              intro hF
              have z := ih e (hF e (by simp))
              have s1 : ps1 (passes E j [k]) e = passes E j [k] := by
                unfold ps1
                rw [if_neg (fun w => w.2 (z.mp w.1))]
              have s2 : ps (passes E j [k]) e = passes E j [k] := by
                unfold ps
                rw [s1]
                unfold ps2
                rw [if_neg (fun w => w.2 (z.mpr w.1))]
              show pass F (ps (passes E j [k]) e) = _
              rw [s2]
              exact ihF fun x hx => hF x (by simp [hx])
          exact absurd (by rw [same E fun _ z => z]) q
        · right
          show j + 1 + 1 ≤ (pass E (passes E j [k])).length
          omega
  rcases key n with h1 | h1
  · exact h1
  · have g := passes_grow hE h n
    have := nodup_le g.nd fun u hu => ⟨(g.all u hu).1, (g.all u hu).2.1⟩
    omega
/-- the members after n passes -/
theorem passes_mem {n : Nat} {M : Int → Int} {k : Int} {E : Ed} (hM : MkOk E M) (hE : ∀ e ∈ E, (0 ≤ e.1 ∧ e.1 < n) ∧ (0 ≤ e.2 ∧ e.2 < n)) (hk : 0 ≤ k ∧ k < n) (u : Int) : u ∈ passes E n [k] ↔ u ∈ islOf n M (M k) := by
  have hE' : ∀ e ∈ E, (0 ≤ e.1 ∧ e.1 < n) ∧ (0 ≤ e.2 ∧ e.2 < n) ∧ M e.1 = M e.2 := fun e he => ⟨(hE e he).1, (hE e he).2, hM.comp e he⟩
  have g0 : Grow n M k [k] := ⟨by simp, by simp, fun u hu => by rw [List.mem_singleton.mp hu]; exact ⟨hk.1, hk.2, rfl⟩⟩
  have g := passes_grow hE' g0 n
  have c := passes_closed hE' g0
  rw [mem_islOf]
  refine ⟨fun h => g.all u h, fun ⟨h1, h2, h3⟩ => ?_⟩
  have f := hM.any (fun v => if v ∈ passes E n [k] then 1 else 0) (fun e he => by simp only [c e he])
  have f1 := f u
  have f2 := f k
  simp only [h3] at f1
  rw [f1] at f2
  rw [if_pos g.has] at f2
  by_cases q : u ∈ passes E n [k]
  · exact q
  · rw [if_neg q] at f2
    simp at f2
def islUp (n : Nat) (M : Int → Int) (m : Nat) : List (List Int) := ((List.range m).filter fun v : Nat => M (v : Int) == (v : Int)).map fun v : Nat => islOf n M (v : Int)
theorem islUp_succ (n : Nat) (M : Int → Int) (m : Nat) : islUp n M (m + 1) = islUp n M m ++ if M (m : Int) = (m : Int) then [islOf n M (m : Int)] else [] := by
  unfold islUp
  rw [List.range_succ, List.filter_append, List.map_append]
  congr 1
  by_cases q : M (m : Int) = (m : Int)
  · simp [q]
  · simp [q]
theorem node_any {n : Nat} {E : Ed} {M : Int → Int} (hM : MkOk E M) {m : Nat} (hm : m < n) : ((islUp n M m).any fun I => decide ((m : Int) ∈ I)) = !(M (m : Int) == (m : Int)) := by
  rw [Bool.eq_iff_iff]
  simp only [List.any_eq_true, islUp, List.mem_map, List.mem_filter, List.mem_range, beq_iff_eq, decide_eq_true_eq, Bool.not_eq_true', beq_eq_false_iff_ne]
  constructor
  · rintro ⟨I, ⟨v, ⟨h1, h2⟩, rfl⟩, h3⟩
    have := (mem_islOf.mp h3).2.2
    omega
  · intro h
    have le := hM.le (m : Int)
    have nn := hM.nn (m : Int) (by omega)
    obtain ⟨v, hv⟩ := Int.eq_ofNat_of_zero_le nn
    have id := hM.idem (m : Int)
    rw [hv] at id
    exact ⟨_, ⟨v, ⟨by omega, id⟩, rfl⟩, mem_islOf.mpr ⟨by omega, by omega, hv⟩⟩
end Lw

set_option Elab.async false
set_option linter.all false
set_option maxRecDepth 100000
set_option maxHeartbeats 4000000
/-! PI2: islands_of and the law's own islands. -/
namespace Lw
open PySem Tx
def lnAt (N : Net) (k : Int) : Line := N.b.getD k.toNat (T4.mk 0 0 0 0)
def edge (N : Net) (k : Int) : Int × Int := ((lnAt N k).a, (lnAt N k).b)
def edges (N : Net) (s : Sta) : Ed := s.a.l.map (edge N)
/-- a net and a state as the laws draw them; n nodes -/
structure Good (N : Net) (s : Sta) (n : Nat) : Prop where
  nn : N.a = (n : Int)
  n1 : 1 ≤ n ∧ n ≤ 8
  no : NetOk 8 N
  s : StaOk N s
theorem NetOk.mono {m k : Int} {N : Net} (h : NetOk m N) (q : m ≤ k) : NetOk k N := { h with n := ⟨h.n.1, Int.le_trans h.n.2 q⟩ }
theorem good_of {m : Int} {N : Net} {s : Sta} (h : NetOk m N) (hm : m ≤ 8) (k : StaOk N s) : ∃ n, Good N s n ∧ (n : Int) ≤ m := by
  have := h.n
  exact ⟨N.a.toNat, ⟨by omega, by omega, h.mono hm, k⟩, by omega⟩
theorem getD_mem {α : Type} {xs : List α} {k : Int} {d : α} (h : 0 ≤ k ∧ k < xs.length) : xs.getD k.toNat d ∈ xs := by
  rw [List.getD_eq_getElem?_getD, List.getElem?_eq_getElem (by omega)]
  exact List.getElem_mem _
section
variable {N : Net} {s : Sta} {n : Nat}
theorem Good.cl (h : Good N s n) : ∀ k ∈ s.a.l, 0 ≤ k ∧ k < N.b.length := h.s.c.lt
theorem Good.ln (h : Good N s n) {k : Int} (hk : 0 ≤ k ∧ k < N.b.length) : LineOk n (lnAt N k) := by
  have := h.no.ls _ (getD_mem (d := T4.mk 0 0 0 0) hk)
  rw [h.nn] at this
  exact this
theorem Good.ed (h : Good N s n) : ∀ e ∈ edges N s, (0 ≤ e.1 ∧ e.1 < n) ∧ (0 ≤ e.2 ∧ e.2 < n) := fun e he => by
  obtain ⟨k, hk, rfl⟩ := List.mem_map.mp he
  have := (h.ln (h.cl k hk)).a
  show (0 ≤ (lnAt N k).a ∧ (lnAt N k).a < n) ∧ (0 ≤ (lnAt N k).b ∧ (lnAt N k).b < n)
  omega
theorem Good.mko (h : Good N s n) : MkOk (edges N s) (marks (edges N s)) := marks_ok _ fun e he => ⟨(h.ed e he).1.1, (h.ed e he).2.1⟩
theorem islL_len (n : Nat) (M : Int → Int) : (islL n M).length ≤ n ∧ ∀ r ∈ islL n M, r.length ≤ n := by
  unfold islL
  refine ⟨?_, fun r hr => ?_⟩
  · rw [List.length_map]; exact Nat.le_trans (List.length_filter_le _ _) (by simp)
  · obtain ⟨m, _, rfl⟩ := List.mem_map.mp hr
    unfold islOf
    rw [List.length_map]; exact Nat.le_trans (List.length_filter_le _ _) (by simp)
/-! ### the law's own -/
theorem li_l3 (h : Good N s n) (found : List (List Int)) (I : List Int) (hI : I.length ≤ 900) {k : Int} (hk : 0 ≤ k ∧ k < N.b.length) : f_law_islands_l3 N s found k I = .ok (ps I (edge N k)) := by
  unfold f_law_islands_l3
  rw [ixR_D (T4.mk 0 0 0 0) hk.1 hk.2]
  rw [show N.b.getD k.toNat (T4.mk 0 0 0 0) = lnAt N k from rfl]
  simp only [R.okb, iteR_okb]
  have e1 : (if (decide ((lnAt N k).a ∈ I) && decide ((lnAt N k).b ∉ I)) = true then (appR I (lnAt N k).b).bind fun x => R.ok x else R.ok I) = R.ok (ps1 I (edge N k)) := by
    unfold ps1 edge
    by_cases q : (lnAt N k).a ∈ I ∧ (lnAt N k).b ∉ I
    · rw [if_pos (by simp only [Bool.and_eq_true, decide_eq_true_eq]; exact q), if_pos q, appR_ok (by omega)]; rfl
    · rw [if_neg (by simp only [Bool.and_eq_true, decide_eq_true_eq]; exact q), if_neg q]
  rw [e1, R.okb]
  have l1 : (ps1 I (edge N k)).length ≤ 901 := by
    unfold ps1
    split
    · rw [List.length_append]; simp; omega
    · omega
  unfold ps ps2
  by_cases q : (edge N k).2 ∈ ps1 I (edge N k) ∧ (edge N k).1 ∉ ps1 I (edge N k)
  · rw [if_pos (by simp only [Bool.and_eq_true, decide_eq_true_eq]; exact q), if_pos q, appR_ok (by omega)]; rfl
  · rw [if_neg (by simp only [Bool.and_eq_true, decide_eq_true_eq]; exact q), if_neg q]
theorem li_pass (h : Good N s n) {M : Int → Int} (found : List (List Int)) {k0 : Int} : ∀ (ks : List Int) (I : List Int), Grow n M k0 I → (∀ k ∈ ks, (0 ≤ k ∧ k < N.b.length) ∧ M (edge N k).1 = M (edge N k).2) → forR (f_law_islands_l3 N s found) ks I = .ok (pass (ks.map (edge N)) I)
  | [], I, _, _ => rfl
  | k :: ks, I, g, hk => by
    obtain ⟨h1, h2⟩ := hk k List.mem_cons_self
    have := nodup_le g.nd fun u hu => ⟨(g.all u hu).1, (g.all u hu).2.1⟩
    have := h.n1
    have q := (h.ln h1).a
    show (f_law_islands_l3 N s found k I).bind _ = _
    rw [li_l3 h found I (by omega) h1, R.okb]
    exact li_pass h found ks _ (ps_grow g (by show 0 ≤ (lnAt N k).a ∧ (lnAt N k).a < n; omega) (by show 0 ≤ (lnAt N k).b ∧ (lnAt N k).b < n; omega) h2) fun x hx => hk x (List.mem_cons_of_mem _ hx)
theorem li_l1 (h : Good N s n) {m : Nat} (hm : m < n) : f_law_islands_l1 N s (m : Int) (islUp n (marks (edges N s)) m) = .ok (islUp n (marks (edges N s)) (m + 1)) := by
  have hM := h.mko
  generalize hE : edges N s = E at hM
  have hEd : ∀ e ∈ E, (0 ≤ e.1 ∧ e.1 < n) ∧ (0 ≤ e.2 ∧ e.2 < n) := hE ▸ h.ed
  unfold f_law_islands_l1
  rw [islUp_succ]
  have hn := h.n1
  have e0 : ((islUp n (marks E) m).map fun v : List Int => decide ((m : Int) ∈ v)).any id = !(marks E (m : Int) == (m : Int)) := by
    rw [List.any_map]
    exact node_any hM hm
  rw [e0, iteR_okb]
  by_cases q : marks E (m : Int) = (m : Int)
  · rw [if_pos (by simp [q]), if_pos q, R.okb, h.nn, rng1_nat (by omega), R.okb]
    have g0 : Grow n (marks E) (m : Int) [(m : Int)] := ⟨by simp, by simp, fun u hu => by rw [List.mem_singleton.mp hu]; exact ⟨by omega, by omega, rfl⟩⟩
    have hE' : ∀ e ∈ E, (0 ≤ e.1 ∧ e.1 < n) ∧ (0 ≤ e.2 ∧ e.2 < n) ∧ marks E e.1 = marks E e.2 := fun e he => ⟨(hEd e he).1, (hEd e he).2, hM.comp e he⟩
    obtain ⟨s', e1, e2⟩ := forR_inv (f := f_law_islands_l2 N s (islUp n (marks E) m)) (xs := rangeN n) (s := [(m : Int)]) (fun i I => I = passes E i [(m : Int)]) rfl fun i x I hx hI => by
      subst hI
      refine ⟨_, ?_, rfl⟩
      unfold f_law_islands_l2
      rw [R.okb, li_pass h (M := marks E) _ (k0 := (m : Int)) s.a.l _ (passes_grow hE' g0 i) (fun k hk => ⟨h.cl k hk, hM.comp _ (hE ▸ List.mem_map_of_mem hk)⟩), R.okb]
      rw [show s.a.l.map (edge N) = E from hE]; rfl
    rw [e1, R.okb]
    have lu : (islUp n (marks E) m).length ≤ m := by
      unfold islUp
      rw [List.length_map]
      exact Nat.le_trans (List.length_filter_le _ _) (by simp)
    rw [appR_ok (by omega), R.okb]
    congr 3
    rw [e2, rangeN_len]
    refine pw_ext ?_ islOf_pw fun x => ?_
    · have nd : (sortI (passes E n [(m : Int)])).Nodup := (sortI_perm _).nodup_iff.mpr (passes_grow hE' g0 n).nd
      have a := sortI_sorted (passes E n [(m : Int)])
      exact (List.pairwise_and_iff.mpr ⟨a, nd⟩).imp fun ⟨h1, h2⟩ => by omega
    · rw [(sortI_perm _).mem_iff, passes_mem hM hEd (by omega), q]
  · rw [if_neg (by simp [q]), if_neg q, List.append_nil]
theorem law_isl_ok (h : Good N s n) : f_law_islands N s = .ok (islL n (marks (edges N s))) := by
  unfold f_law_islands
  rw [R.okb, h.nn, rng1_nat (by have := h.n1; omega), R.okb]
  obtain ⟨s', e1, e2⟩ := forR_inv (f := f_law_islands_l1 N s) (xs := rangeN n) (s := []) (fun i W => W = islUp n (marks (edges N s)) i) rfl fun i x W hx hW => by
    subst hW
    rw [rangeN_get] at hx
    split at hx
    · cases hx
      exact ⟨_, li_l1 h (by assumption), rfl⟩
    · cases hx
  rw [e1, R.okb, e2, rangeN_len]
  rfl
end
end Lw

set_option Elab.async false
set_option linter.all false
set_option maxRecDepth 100000
set_option maxHeartbeats 4000000
/-! PC: the conditions of an island. -/
namespace Lw
open PySem Tx
/-- what an island is made of -/
structure Isl where
  I : List Int
  S : List Stat
  L : List Line
  D : List (Int × Int)
/-- .. well -/
structure IslOk (T : Isl) : Prop where
  nd : T.I.Nodup
  n1 : 1 ≤ T.I.length
  n2 : T.I.length ≤ 8
  s : T.S.length ≤ 4
  l : T.L.length ≤ 8
  d : T.D.length ≤ 4
  sI : ∀ x ∈ T.S, x.a ∈ T.I
  lI : ∀ x ∈ T.L, x.a ∈ T.I ∧ x.b ∈ T.I
  sl : ∀ x ∈ T.S, 0 ≤ x.b ∧ x.b ≤ x.c ∧ x.c ≤ 1000
  ll : ∀ x ∈ T.L, x.a ≠ x.b ∧ (1 ≤ x.c ∧ x.c ≤ 1000) ∧ (0 ≤ x.d ∧ x.d ≤ 1000)
  dl : ∀ x ∈ T.D, x.1 ∈ T.I ∧ (1 ≤ x.2 ∧ x.2 ≤ 1000)
def Isl.m (T : Isl) : Nat := T.S.length + T.I.length
def Isl.ob (T : Isl) : CIsland := ⟨T.I, T.S, T.L, T.D, (T.S.length : Int) + (T.I.length : Int) - 1⟩
/-- the place of a node's potential; 0 where it has none -/
def Isl.pl (T : Isl) (v : Int) : Nat := if 0 < T.I.idxOf v then T.S.length + T.I.idxOf v else 0
/-! ### rows -/
def Isl.flow (T : Isl) (l : Line) (j : Nat) : Int := (if 0 < j ∧ j = T.pl l.a then l.c else 0) - (if 0 < j ∧ j = T.pl l.b then l.c else 0)
def Isl.low (T : Isl) (k : Nat) (x : Stat) (j : Nat) : Int := if j = 1 + k then 1 else if j = 0 then -x.b else 0
def Isl.high (T : Isl) (k : Nat) (x : Stat) (j : Nat) : Int := if j = 1 + k then -1 else if j = 0 then x.c else 0
def Isl.line (T : Isl) (l : Line) (g : Int) (j : Nat) : Int := if j = 0 then l.d else g * T.flow l j
def sgn (l : Line) (v : Int) : Int := if l.a = v then -1 else if l.b = v then 1 else 0
def Isl.fed (T : Isl) (v : Int) : Int := ((T.D.filter fun x => decide (x.1 = v)).map (·.2)).sum
def Isl.exc (T : Isl) (v : Int) (j : Nat) : Int :=
  ((if j = 0 then -T.fed v else 0) + (if 1 ≤ j ∧ j ≤ T.S.length ∧ (T.S.getD (j - 1) (T4.mk 0 0 0 false)).a = v then 1 else 0)) + (T.L.map fun l => sgn l v * T.flow l j).sum
def Isl.rows (T : Isl) : List (List Int) :=
  (((T.S.zipIdx).map fun p => [vec T.m (T.low p.2 p.1), vec T.m (T.high p.2 p.1)]).flatten ++ (T.L.map fun l => [vec T.m (T.line l (-1)), vec T.m (T.line l 1)]).flatten) ++
    (T.I.map fun v => [vec T.m (T.exc v), vec T.m fun j => -T.exc v j]).flatten
section
variable {T : Isl}
theorem IslOk.m (h : IslOk T) : 1 ≤ T.m ∧ T.m ≤ 12 := by
  have := h.n1; have := h.n2; have := h.s
  unfold Isl.m; omega
theorem Isl.pl_lt {v : Int} (hv : v ∈ T.I) : T.pl v < T.m := by
  have := List.idxOf_lt_length_of_mem hv
  unfold Isl.pl Isl.m
  split <;> omega
theorem idxR_mem {I : List Int} {v : Int} (hv : v ∈ I) : idxR I v = .ok (I.idxOf v : Int) := by
  have : I.idxOf? v = some (I.idxOf v) := by
    induction I with
    | nil => cases hv
    | cons a I ih =>
      rw [List.idxOf?_cons, List.idxOf_cons]
      by_cases q : a == v
      · rw [if_pos q, q]; rfl
      · rw [if_neg q]
        have : (a == v) = false := by simpa using q
        rw [this]
        rcases List.mem_cons.mp hv with rfl | hv
        · simp at q
        · rw [ih hv]; rfl
  unfold idxR
  rw [this]
theorem blank_ok (h : IslOk T) : f_Island_blank T.ob = .ok (vec T.m fun _ => 0) := by
  have := h.m
  unfold f_Island_blank
  have e : T.ob.count + 1 = (T.m : Int) := by
    show (T.S.length : Int) + (T.I.length : Int) - 1 + 1 = ((T.S.length + T.I.length : Nat) : Int)
    omega
  rw [e, repR_one (by omega), vec_zero]
theorem pot_ok (h : IslOk T) {v : Int} (hv : v ∈ T.I) (f : Nat → Int) (c : Int) : f_Island_add_potential T.ob (vec T.m f) v c = .ok (vec T.m fun j => f j + if 0 < j ∧ j = T.pl v then c else 0) := by
  have hi := List.idxOf_lt_length_of_mem hv
  unfold f_Island_add_potential
  rw [show T.ob.nodes = T.I from rfl, idxR_mem hv, R.okb, iteR_okb]
  by_cases q : 0 < T.I.idxOf v
  · have ep : T.pl v = T.S.length + T.I.idxOf v := by unfold Isl.pl; rw [if_pos q]
    rw [if_pos (by simpa using q), show T.ob.stations = T.S from rfl, show (T.S.length : Int) + (T.I.idxOf v : Int) = ((T.pl v : Nat) : Int) by rw [ep]; omega]
    have := T.pl_lt hv
    rw [vec_ix this, R.okb, vec_put this, R.okb]
    congr 1
    refine vec_ext fun j hj => ?_
    by_cases e : j = T.pl v
    · subst e
      rw [if_pos rfl, if_pos ⟨by omega, rfl⟩]
    · rw [if_neg e, if_neg (fun z => e z.2)]; omega
  · rw [if_neg (by simpa using q)]
    congr 1
    refine vec_ext fun j hj => ?_
    have ep : T.pl v = 0 := by unfold Isl.pl; rw [if_neg q]
    rw [if_neg (by omega)]; omega
theorem flow_ok (h : IslOk T) {l : Line} (hl : l ∈ T.L) : f_Island_flow T.ob l = .ok (vec T.m (T.flow l)) := by
  obtain ⟨ha, hb⟩ := h.lI l hl
  unfold f_Island_flow
  rw [R.okb, blank_ok h, R.okb, pot_ok h ha, R.okb, pot_ok h hb, R.okb]
  congr 1
  refine vec_ext fun j hj => ?_
  unfold Isl.flow
  split <;> split <;> omega
theorem ex_l1 (h : IslOk T) {v : Int} (f : Nat → Int) : forR (f_Island_excess_l1 T.ob v) (enumL 0 T.S) (vec T.m f) = .ok (vec T.m fun j => f j + if 1 ≤ j ∧ j ≤ T.S.length ∧ (T.S.getD (j - 1) (T4.mk 0 0 0 false)).a = v then 1 else 0) := by
  have hm : T.m = T.S.length + T.I.length := rfl
  have := h.n1
  obtain ⟨s', e1, e2⟩ := forR_inv (f := f_Island_excess_l1 T.ob v) (xs := enumL 0 T.S) (s := vec T.m f) (fun i s => s = vec T.m fun j => f j + if 1 ≤ j ∧ j ≤ i ∧ (T.S.getD (j - 1) (T4.mk 0 0 0 false)).a = v then 1 else 0)
    (vec_ext fun j _ => by rw [if_neg (by omega)]; omega) fun i x s hx hs => by
      rw [enumL_get] at hx
      subst hs
      cases hq : T.S[i]? with
      | none => rw [hq] at hx; cases hx
      | some y =>
        rw [hq] at hx
        simp only [Option.map_some, Option.some.injEq] at hx
        subst hx
        have hi := (List.getElem?_eq_some_iff.mp hq).1
        refine ⟨_, ?_, rfl⟩
        have ey : (T.S.getD (i + 1 - 1) (T4.mk 0 0 0 false)) = y := by rw [List.getD_eq_getElem?_getD, Nat.add_sub_cancel, hq]; rfl
        unfold f_Island_excess_l1
        simp only [iteR_okb, Nat.zero_add]
        rw [show (1 : Int) + (i : Int) = ((i + 1 : Nat) : Int) by omega]
        by_cases z : y.a = v
        · rw [if_pos (by simpa using z), vec_ix (by omega), R.okb, vec_put (by omega), R.okb]
          congr 1
          refine vec_ext fun j hj => ?_
          by_cases e : j = i + 1
          · subst e
            rw [if_pos rfl, if_neg (by omega), if_pos ⟨by omega, by omega, by rw [ey]; exact z⟩]; omega
          · rw [if_neg e]
            congr 1
            exact ite_iff (by omega)
        · rw [if_neg (by simpa using z)]
          congr 1
          refine vec_ext fun j hj => ?_
          by_cases e : j = i + 1
          · subst e
            rw [if_neg (by omega), if_neg (fun w => z (by rw [← ey]; exact w.2.2))]
          · congr 1
            exact ite_iff (by omega)
  rw [e1, e2, enumL_len]
theorem ex_l2 (h : IslOk T) {v : Int} : ∀ (D : List (Int × Int)) (f : Nat → Int), forR (f_Island_excess_l2 T.ob v) D (vec T.m f) = .ok (vec T.m fun j => if j = 0 then f 0 - ((D.filter fun x => decide (x.1 = v)).map (·.2)).sum else f j)
  | [], f => by
    show R.ok _ = _
    congr 1
    refine vec_ext fun j _ => ?_
    split
    · rename_i e; subst e; simp
    · rfl
  | x :: D, f => by
    have := h.m
    have e1 : f_Island_excess_l2 T.ob v x (vec T.m f) = .ok (vec T.m fun j => if j = 0 then f 0 - (if x.1 = v then x.2 else 0) else f j) := by
      unfold f_Island_excess_l2
      rw [iteR_okb]
      by_cases z : x.1 = v
      · rw [if_pos (by simpa using z), vec_ixi ⟨by omega, by omega⟩, R.okb, vec_puti ⟨by omega, by omega⟩, R.okb, if_pos z]
        rfl
      · rw [if_neg (by simpa using z), if_neg z]
        congr 1
        refine vec_ext fun j _ => ?_
        split
        · rename_i e; subst e; omega
        · rfl
    show (f_Island_excess_l2 T.ob v x (vec T.m f)).bind _ = _
    rw [e1, R.okb]
    rw [ex_l2 h D]
    congr 1
    refine vec_ext fun j _ => ?_
    rw [List.filter_cons]
    by_cases z : x.1 = v
    · simp only [z, decide_true, if_true, List.map_cons, List.sum_cons]
      split
      · omega
      · rfl
    · simp only [z, decide_false, if_false, Bool.false_eq_true]
      split
      · omega
      · rfl
theorem ex_l3 (h : IslOk T) {v : Int} : ∀ (L : List Line) (f : Nat → Int), (∀ l ∈ L, l ∈ T.L) → forR (f_Island_excess_l3 T.ob v) L (vec T.m f) = .ok (vec T.m fun j => f j + (L.map fun l => sgn l v * T.flow l j).sum)
  | [], f, _ => by
    show R.ok _ = _
    congr 1
    refine vec_ext fun j _ => by simp
  | l :: L, f, hL => by
    have hl := hL l List.mem_cons_self
    have hab := (h.ll l hl).1
    have e1 : f_Island_excess_l3 T.ob v l (vec T.m f) = .ok (vec T.m fun j => f j + sgn l v * T.flow l j) := by
      unfold f_Island_excess_l3
      rw [R.okb, iteR_okb]
      by_cases z : v = l.a ∨ v = l.b
      · rw [if_pos (by simpa using z), flow_ok h hl, R.okb, R.okb, vec_zip, vec_mapR (q := fun j => f j + sgn l v * T.flow l j) fun j hj => ?_]
        · rfl
        · have hs : (if decide (l.a = v) = true then (-1 : Int) else 1) = sgn l v := by
            unfold sgn
            rcases z with rfl | rfl
            · simp
            · rw [if_neg (by simpa using hab), if_neg hab, if_pos rfl]
          rw [hs]
          rw [mulR_l (by unfold sgn; split; omega; split <;> omega)]
          rfl
      · rw [if_neg (by simpa using z)]
        congr 1
        refine vec_ext fun j _ => ?_
        have : sgn l v = 0 := by
          unfold sgn
          rw [if_neg (fun e => z (.inl e.symm)), if_neg (fun e => z (.inr e.symm))]
        rw [this]; omega
    show (f_Island_excess_l3 T.ob v l (vec T.m f)).bind _ = _
    rw [e1, R.okb, ex_l3 h L _ fun x hx => hL x (List.mem_cons_of_mem _ hx)]
    congr 1
    refine vec_ext fun j _ => ?_
    simp only [List.map_cons, List.sum_cons]; omega
theorem exc_ok (h : IslOk T) {v : Int} : f_Island_excess T.ob v = .ok (vec T.m (T.exc v)) := by
  unfold f_Island_excess
  rw [blank_ok h, R.okb, R.okb, show T.ob.stations = T.S from rfl, show T.ob.loads = T.D from rfl, show T.ob.lines = T.L from rfl, ex_l1 h, R.okb, R.okb, ex_l2 h, R.okb, R.okb, ex_l3 h _ _ fun _ hl => hl, R.okb]
  congr 1
  refine vec_ext fun j _ => ?_
  unfold Isl.exc Isl.fed
  congr 1
  split
  · rename_i e
    subst e
    rw [if_neg (by omega)]; omega
  · rfl
theorem cond_ok (h : IslOk T) : f_Island_conditions T.ob = .ok T.rows := by
  have hm := h.m
  have hms : T.m = T.S.length + T.I.length := rfl
  have := h.n1
  unfold f_Island_conditions
  rw [R.okb, R.okb, show T.ob.stations = T.S from rfl, show T.ob.nodes = T.I from rfl, show T.ob.lines = T.L from rfl]
  obtain ⟨s1, e1, q1⟩ := forR_inv (f := f_Island_conditions_l1 T.ob) (xs := enumL 0 T.S) (s := []) (fun i s => s = (((T.S.zipIdx).take i).map fun p => [vec T.m (T.low p.2 p.1), vec T.m (T.high p.2 p.1)]).flatten) rfl fun i x s hx hs => by
    rw [enumL_get] at hx
    subst hs
    cases hq : T.S[i]? with
    | none => rw [hq] at hx; cases hx
    | some y =>
      rw [hq] at hx
      simp only [Option.map_some, Option.some.injEq] at hx
      subst hx
      have hi := (List.getElem?_eq_some_iff.mp hq).1
      refine ⟨_, ?_, rfl⟩
      unfold f_Island_conditions_l1
      rw [R.okb, blank_ok h, R.okb, vec_puti ⟨by omega, by omega⟩, R.okb]
      rw [show (1 : Int) + ((0 + i : Nat) : Int) = ((1 + i : Nat) : Int) by omega, vec_put (by omega), R.okb, R.okb, vec_puti ⟨by omega, by omega⟩, R.okb, vec_put (by omega), R.okb, catR_ok, R.okb]
      · congr 1
        rw [List.take_add_one, List.getElem?_zipIdx, hq, List.map_append, List.flatten_append]
        congr 1
        simp only [Option.map_some, Option.toList_some, List.map_cons, List.map_nil, List.flatten_cons, List.flatten_nil, List.append_nil, Nat.zero_add]
        rfl
      · rw [two_len]
        have := h.s
        rw [List.length_take]
        simp; omega
  rw [e1, R.okb, R.okb]
  have q1' : s1 = ((T.S.zipIdx).map fun p => [vec T.m (T.low p.2 p.1), vec T.m (T.high p.2 p.1)]).flatten := by
    rw [q1, enumL_len, List.take_of_length_le (by simp)]
  have l1 : s1.length ≤ 8 := by
    have := h.s
    rw [q1', two_len, List.length_zipIdx]; omega
  clear q1 e1
  obtain ⟨s2, e2, q2⟩ := forR_inv (f := f_Island_conditions_l2 T.ob) (xs := T.L) (s := s1) (fun i s => s = s1 ++ ((T.L.take i).map fun l => [vec T.m (T.line l (-1)), vec T.m (T.line l 1)]).flatten) (by simp) fun i l s hx hs => by
    subst hs
    have hi := (List.getElem?_eq_some_iff.mp hx).1
    have hl := List.mem_of_getElem? hx
    refine ⟨_, ?_, rfl⟩
    have turn : ∀ (g : Int) (s : List (List Int)), g = 1 ∨ g = -1 → s.length ≤ 1000 → f_Island_conditions_l3 T.ob l g s = .ok (s ++ [vec T.m (T.line l g)]) := fun g s hg hs => by
      unfold f_Island_conditions_l3
      rw [flow_ok h hl, R.okb, vec_mapR (q := fun j => g * T.flow l j) fun j hj => mulR_l (by omega), noX_ok, R.okb, vec_puti ⟨by omega, by omega⟩, R.okb, appR_ok (by omega), R.okb]
      rfl
    have hlen : (s1 ++ ((T.L.take i).map fun l => [vec T.m (T.line l (-1)), vec T.m (T.line l 1)]).flatten).length ≤ 900 := by
      have := h.l
      rw [List.length_append, two_len, List.length_take]; omega
    unfold f_Island_conditions_l2
    rw [R.okb]
    show (((f_Island_conditions_l3 T.ob l (-1) _).bind fun s => (f_Island_conditions_l3 T.ob l 1 s).bind fun s => R.ok s).bind _) = _
    rw [turn (-1) _ (.inr rfl) (by omega), R.okb, turn 1 _ (.inl rfl) (by rw [List.length_append]; simp only [List.length_cons, List.length_nil]; omega), R.okb, R.okb]
    congr 1
    rw [List.take_add_one, hx, List.map_append, List.flatten_append]
    simp
  rw [e2, R.okb, R.okb]
  rw [List.take_of_length_le (Nat.le_refl _)] at q2
  have l2 : s2.length ≤ 24 := by
    have := h.l
    rw [q2, List.length_append, two_len]; omega
  clear e2
  obtain ⟨s3, e3, q3⟩ := forR_inv (f := f_Island_conditions_l4 T.ob) (xs := T.I) (s := s2) (fun i s => s = s2 ++ ((T.I.take i).map fun v => [vec T.m (T.exc v), vec T.m fun j => -T.exc v j]).flatten) (by simp) fun i v s hx hs => by
    subst hs
    have hi := (List.getElem?_eq_some_iff.mp hx).1
    refine ⟨_, ?_, rfl⟩
    have hlen : (s2 ++ ((T.I.take i).map fun v => [vec T.m (T.exc v), vec T.m fun j => -T.exc v j]).flatten).length ≤ 900 := by
      have := h.n2
      rw [List.length_append, two_len, List.length_take]; omega
    unfold f_Island_conditions_l4
    rw [exc_ok h, R.okb, appR_ok (by omega), R.okb, appR_ok (by rw [List.length_append]; simp only [List.length_cons, List.length_nil]; omega), R.okb, vec_map]
    congr 1
    rw [List.take_add_one, hx, List.map_append, List.flatten_append]
    simp
  rw [e3, R.okb, q3, List.take_of_length_le (Nat.le_refl _), q2, q1']
  rfl
end
end Lw

set_option Elab.async false
set_option linter.all false
set_option maxRecDepth 100000
set_option maxHeartbeats 4000000
/-! PC2: an island out of a net and a state; the law's own conditions. -/
namespace Lw
open PySem Tx
def stAt (N : Net) (k : Int) : Stat := N.c.getD k.toNat (T4.mk 0 0 0 false)
def ldAt (N : Net) (k : Int) : Int × Int := N.d.getD k.toNat (0, 0)
def islT (N : Net) (s : Sta) (I : List Int) : Isl where
  I := I
  S := (s.b.l.filter fun v => decide ((stAt N v).a ∈ I)).map (stAt N)
  L := (s.a.l.filter fun v => decide ((lnAt N v).a ∈ I)).map (lnAt N)
  D := (s.c.l.filter fun v => decide ((ldAt N v).1 ∈ I)).map (ldAt N)
theorem ix_len2 {n : Nat} {l : List Int} (h : IxOk n l) : l.length ≤ n := nodup_le (h.up.imp fun h => by omega) h.lt
section
variable {N : Net} {s : Sta} {n : Nat}
theorem st_ix (h : Good N s n) {v : Int} (hv : v ∈ s.b.l) : ixR N.c v = .ok (stAt N v) := by
  have := h.s.r.lt v hv
  exact ixR_D _ this.1 this.2
theorem ln_ix (h : Good N s n) {v : Int} (hv : v ∈ s.a.l) : ixR N.b v = .ok (lnAt N v) := by
  have := h.s.c.lt v hv
  exact ixR_D _ this.1 this.2
theorem ld_ix (h : Good N s n) {v : Int} (hv : v ∈ s.c.l) : ixR N.d v = .ok (ldAt N v) := by
  have := h.s.f.lt v hv
  exact ixR_D _ this.1 this.2
theorem law_st_ok (h : Good N s n) (I : List Int) : noX (fmapR (fun v4 : Int => (((ixR N.c v4).bind fun x5 => R.ok x5.a).bind fun x6 => R.ok (decide (x6 ∈ I)))) (fun v4 : Int => (ixR N.c v4)) s.b.l) = .ok (islT N s I).S := by
  rw [fmapR_of (p := fun v => decide ((stAt N v).a ∈ I)) (g := stAt N) (fun v hv => by rw [st_ix h hv]; rfl) (fun v hv _ => st_ix h hv)]
  rfl
theorem law_ln_ok (h : Good N s n) (I : List Int) : noX (fmapR (fun v4 : Int => (((ixR N.b v4).bind fun x5 => R.ok x5.a).bind fun x6 => R.ok (decide (x6 ∈ I)))) (fun v4 : Int => (ixR N.b v4)) s.a.l) = .ok (islT N s I).L := by
  rw [fmapR_of (p := fun v => decide ((lnAt N v).a ∈ I)) (g := lnAt N) (fun v hv => by rw [ln_ix h hv]; rfl) (fun v hv _ => ln_ix h hv)]
  rfl
theorem law_ld_ok (h : Good N s n) (I : List Int) : noX (fmapR (fun v4 : Int => (((ixR N.d v4).bind fun x5 => R.ok x5.1).bind fun x6 => R.ok (decide (x6 ∈ I)))) (fun v4 : Int => (ixR N.d v4)) s.c.l) = .ok (islT N s I).D := by
  rw [fmapR_of (p := fun v => decide ((ldAt N v).1 ∈ I)) (g := ldAt N) (fun v hv => by rw [ld_ix h hv]; rfl) (fun v hv _ => ld_ix h hv)]
  rfl
theorem init_ok (h : Good N s n) (I : List Int) : f_Island_init N s I = .ok (islT N s I).ob := by
  unfold f_Island_init
  rw [R.okb, R.okb, R.okb, law_st_ok h, R.okb, law_ln_ok h, R.okb, law_ld_ok h, R.okb, R.okb]
  rfl
theorem fed_ok (h : Good N s n) {I : List Int} {v : Int} (hv : v ∈ I) : f_law_fed N s v = .ok ((islT N s I).fed v) := by
  unfold f_law_fed
  rw [fmapR_of (p := fun u => decide ((ldAt N u).1 = v)) (g := fun u => (ldAt N u).2) (fun u hu => by rw [ld_ix h hu]; rfl) (fun u hu _ => by rw [ld_ix h hu]; rfl)]
  show R.ok _ = _
  congr 1
  unfold Isl.fed islT
  rw [List.filter_map, List.filter_filter, List.map_map]
  have : (s.c.l.filter fun u => decide ((ldAt N u).1 = v)) = s.c.l.filter fun a => ((fun x : Int × Int => decide (x.1 = v)) ∘ ldAt N) a && decide ((ldAt N a).1 ∈ I) := by
    refine List.filter_congr fun x _ => ?_
    show decide ((ldAt N x).1 = v) = (decide ((ldAt N x).1 = v) && decide ((ldAt N x).1 ∈ I))
    by_cases q : (ldAt N x).1 = v
    · rw [q]; simp [hv]
    · simp [q]
  rw [this]; rfl
/-- an island of the law's is well -/
theorem islT_ok (h : Good N s n) {I : List Int} (hI : I ∈ islL n (marks (edges N s))) : IslOk (islT N s I) := by
  have hM := h.mko
  obtain ⟨m, hm, rfl⟩ := List.mem_map.mp hI
  have hm := List.mem_filter.mp hm
  have hm1 := List.mem_range.mp hm.1
  have hm2 : marks (edges N s) (m : Int) = (m : Int) := by simpa using hm.2
  have hl := (islL_len n (marks (edges N s))).2 _ hI
  have hn := h.n1
  have no := h.no
  have ln_ : ∀ x ∈ (islT N s (islOf n (marks (edges N s)) (m : Int))).L, LineOk n x ∧ x.a ∈ islOf n (marks (edges N s)) (m : Int) ∧ x.b ∈ islOf n (marks (edges N s)) (m : Int) := fun x hx => by
    obtain ⟨v, hv, rfl⟩ := List.mem_map.mp hx
    obtain ⟨h1, h2⟩ := List.mem_filter.mp hv
    have h2 : (lnAt N v).a ∈ islOf n (marks (edges N s)) (m : Int) := by simpa using h2
    have q := h.ln (h.cl v h1)
    have := q.a
    refine ⟨q, h2, ?_⟩
    have e := hM.comp (edge N v) (List.mem_map_of_mem h1)
    rw [mem_islOf] at h2 ⊢
    exact ⟨by omega, by omega, by rw [← h2.2.2]; exact e.symm⟩
  have st_ : ∀ x ∈ (islT N s (islOf n (marks (edges N s)) (m : Int))).S, x ∈ N.c ∧ x.a ∈ islOf n (marks (edges N s)) (m : Int) := fun x hx => by
    obtain ⟨v, hv, rfl⟩ := List.mem_map.mp hx
    obtain ⟨h1, h2⟩ := List.mem_filter.mp hv
    exact ⟨getD_mem (h.s.r.lt v h1), by simpa using h2⟩
  have ld_ : ∀ x ∈ (islT N s (islOf n (marks (edges N s)) (m : Int))).D, x ∈ N.d ∧ x.1 ∈ islOf n (marks (edges N s)) (m : Int) := fun x hx => by
    obtain ⟨v, hv, rfl⟩ := List.mem_map.mp hx
    obtain ⟨h1, h2⟩ := List.mem_filter.mp hv
    exact ⟨getD_mem (h.s.f.lt v h1), by simpa using h2⟩
  refine ⟨islOf_pw.imp fun h => by omega, ?_, by show (islOf _ _ _).length ≤ 8; omega, ?_, ?_, ?_, fun x hx => (st_ x hx).2, fun x hx => (ln_ x hx).2, fun x hx => ?_, fun x hx => ?_, fun x hx => ?_⟩
  · exact List.length_pos_of_mem (a := (m : Int)) (mem_islOf.mpr ⟨by omega, by omega, hm2⟩)
  · have := ix_len2 h.s.r; have := no.l2
    show ((s.b.l.filter _).map _).length ≤ 4
    rw [List.length_map]
    exact Nat.le_trans (List.length_filter_le _ _) (by omega)
  · have := ix_len2 h.s.c; have := no.l1
    show ((s.a.l.filter _).map _).length ≤ 8
    rw [List.length_map]
    exact Nat.le_trans (List.length_filter_le _ _) (by omega)
  · have := ix_len2 h.s.f; have := no.l3
    show ((s.c.l.filter _).map _).length ≤ 4
    rw [List.length_map]
    exact Nat.le_trans (List.length_filter_le _ _) (by omega)
  · exact (no.ss x (st_ x hx).1).l
  · have q := (ln_ x hx).1
    have := q.a
    exact ⟨by omega, q.s, q.l⟩
  · exact ⟨(ld_ x hx).2, (no.ds x (ld_ x hx).1).l⟩
end
/-! ### the law's places -/
theorem dcV_put {α : Type} (l : List (Int × α)) (k v : Int) (a : α) : dcV (dcPut l k a) v = if v = k then some a else dcV l v := by
  unfold dcPut dcV
  split
  · rename_i hk
    induction l with
    | nil => simp at hk
    | cons p l ih =>
      rw [List.map_cons, List.find?_cons, List.find?_cons]
      by_cases e : p.1 = k
      · rw [if_pos e]
        by_cases z : v = k
        · subst z
          simp [e]
        · have n1 : decide (p.1 = v) = false := by simp; omega
          rw [if_neg z]
          simp only [n1]
          clear ih hk
          have : ∀ l : List (Int × α), ((l.map fun p => if p.1 = k then (p.1, a) else p).find? fun p => decide (p.1 = v)) = l.find? fun p => decide (p.1 = v) := by
            intro l
            induction l with
            | nil => rfl
            | cons q l ih =>
              rw [List.map_cons, List.find?_cons, List.find?_cons, ih]
              by_cases w : q.1 = k
              · have n2 : decide (q.1 = v) = false := by simp; omega
                rw [if_pos w]
                simp only [n2]
              · rw [if_neg w]
          rw [this]
      · rw [if_neg e]
        have hk' : (l.any fun p => decide (p.1 = k)) = true := by simpa [e] using hk
        have ih := ih hk'
        by_cases w : p.1 = v
        · have : v ≠ k := fun z => e (w.trans z)
          rw [if_neg this]
          simp [w]
        · have : decide (p.1 = v) = false := by simp [w]
          simp only [this]
          exact ih
  · rename_i hk
    have hk : ∀ p ∈ l, p.1 ≠ k := fun p hp e => hk (List.any_eq_true.mpr ⟨p, hp, by simpa using e⟩)
    rw [List.find?_append]
    by_cases z : v = k
    · subst z
      rw [if_pos rfl, List.find?_eq_none.mpr (by simpa using hk)]
      simp
    · rw [if_neg z]
      have : decide (k = v) = false := by simp; omega
      simp [this]
theorem dcPut_len {α : Type} (l : List (Int × α)) (k : Int) (a : α) : (dcPut l k a).length ≤ l.length + 1 := by
  unfold dcPut
  split
  · rw [List.length_map]; omega
  · simp
/-- the places a law's dict tells -/
structure Plc (T : Isl) (d : Dc Int Int) : Prop where
  h : ∀ v ∈ T.I, dcV d.l v = if 0 < T.I.idxOf v then some ((T.pl v : Nat) : Int) else none
section
variable {N : Net} {s : Sta} {n : Nat} {T : Isl}
theorem plc_ok (h : IslOk T) (N : Net) (s : Sta) (S : List Stat) (hS : S.length = T.S.length) (L : List Line) (c : Int) (z : List Int) :
    ∃ xs d, rng2 (1 : Int) (T.I.length : Int) = .ok xs ∧ forR (f_law_conditions_l1 N s T.I S L c z) xs (Dc.mk []) = .ok d ∧ Plc T d := by
  have h2 := h.n2
  have h1 := h.n1
  have er : rng2 (1 : Int) (T.I.length : Int) = .ok (rangeI 1 (T.I.length : Int)) := by unfold rng2 big; rw [if_pos (by omega)]
  have eg : ∀ i x, (rangeI 1 (T.I.length : Int))[i]? = some x → x = ((i + 1 : Nat) : Int) ∧ i + 1 < T.I.length := fun i x hx => by
    unfold rangeI at hx
    rw [List.getElem?_map] at hx
    by_cases q : i < T.I.length - 1
    · rw [List.getElem?_range (by omega)] at hx
      simp only [Option.map_some, Option.some.injEq] at hx
      exact ⟨by omega, by omega⟩
    · rw [List.getElem?_eq_none (by simp; omega)] at hx; cases hx
  have el : (rangeI 1 (T.I.length : Int)).length = T.I.length - 1 := by unfold rangeI; simp
  obtain ⟨d, e, hd⟩ := forR_inv (f := f_law_conditions_l1 N s T.I S L c z) (xs := rangeI 1 (T.I.length : Int)) (s := Dc.mk []) (fun i d => d.l.length ≤ i ∧ ∀ v ∈ T.I, dcV d.l v = if 0 < T.I.idxOf v ∧ T.I.idxOf v ≤ i then some ((T.pl v : Nat) : Int) else none)
    ⟨Nat.le_refl _, fun v _ => by rw [if_neg (by omega)]; rfl⟩ fun i x d hx ⟨hd1, hd2⟩ => by
      obtain ⟨rfl, hi⟩ := eg i x hx
      refine ⟨⟨dcPut d.l T.I[i + 1] ((T.S.length + (i + 1) : Nat) : Int)⟩, ?_, ?_, fun v hv => ?_⟩
      · unfold f_law_conditions_l1
        rw [ixR_nat (x := T.I[i + 1]) (by simp [hi]), R.okb]
        unfold dputR big
        rw [if_pos (by omega), R.okb, hS]
        rfl
      · have := dcPut_len d.l T.I[i + 1] ((T.S.length + (i + 1) : Nat) : Int)
        show (dcPut _ _ _).length ≤ _; omega
      · show dcV (dcPut _ _ _) v = _
        rw [dcV_put, hd2 v hv]
        have ei : T.I.idxOf T.I[i + 1] = i + 1 := h.nd.idxOf_getElem _ hi
        by_cases q : v = T.I[i + 1]
        · subst q
          rw [if_pos rfl, ei, if_pos (by omega)]
          unfold Isl.pl
          rw [ei, if_pos (by omega)]
        · rw [if_neg q]
          refine ite_iff ?_
          have : T.I.idxOf v ≠ i + 1 := fun w => q (by
            have hh := List.idxOf_lt_length_of_mem hv
            have := List.getElem_idxOf hh
            rw [← this]
            simp only [w])
          omega
  rw [el] at hd
  refine ⟨_, d, er, e, ⟨fun v hv => ?_⟩⟩
  rw [hd.2 v hv]
  have := List.idxOf_lt_length_of_mem hv
  exact ite_iff (by omega)
theorem pl_pos (T : Isl) {v : Int} : (0 < T.I.idxOf v) ↔ 0 < T.pl v := by
  unfold Isl.pl
  split
  · constructor <;> intro <;> omega
  · constructor <;> intro <;> omega
theorem pl_inj (h : IslOk T) {u v : Int} (hu : u ∈ T.I) (hv : v ∈ T.I) (hn : u ≠ v) (h0 : 0 < T.pl u) : T.pl u ≠ T.pl v := by
  have a := (pl_pos T).mpr h0
  unfold Isl.pl
  rw [if_pos a]
  intro e
  split at e
  · have w : T.I.idxOf u = T.I.idxOf v := by omega
    have h1 := List.getElem_idxOf (List.idxOf_lt_length_of_mem hu)
    have h2 := List.getElem_idxOf (List.idxOf_lt_length_of_mem hv)
    exact hn (by rw [← h1, ← h2]; simp only [w])
  · omega
/-- the two rows of a line as the law builds them -/
theorem law_l3 (h : IslOk T) {d : Dc Int Int} (hd : Plc T d) (N : Net) (s : Sta) (I : List Int) (S : List Stat) (L : List Line) (c : Int) {l : Line} (hl : l ∈ T.L) (W F : List (List Int)) (hW : W.length ≤ 1000) (hF : F.length ≤ 1000) :
    f_law_conditions_l3 N s I S L c (vec T.m fun _ => 0) d l (W, F) = .ok (W ++ [vec T.m (T.line l (-1)), vec T.m (T.line l 1)], F ++ [vec T.m (T.flow l)]) := by
  obtain ⟨ha, hb⟩ := h.lI l hl
  have hab := (h.ll l hl).1
  have hm := h.m
  unfold f_law_conditions_l3
  rw [R.okb]
  have e1 : (iteR (R.ok (dcV d.l l.a).isSome) (((dgetR d l.a).bind fun x51 => (putR (vec T.m fun _ => (0 : Int)) x51 l.c)).bind fun flow50 => R.ok flow50) (R.ok (vec T.m fun _ => 0))) = .ok (vec T.m fun j => if 0 < j ∧ j = T.pl l.a then l.c else 0) := by
    rw [iteR_okb]
    unfold dgetR
    rw [hd.h _ ha]
    by_cases q : 0 < T.I.idxOf l.a
    · rw [if_pos q]
      simp only [Option.isSome_some, if_true, R.okb]
      rw [vec_put (T.pl_lt ha), R.okb]
      congr 1
      have := (pl_pos T).mp q
      exact vec_ext fun j _ => ite_iff ⟨fun z => ⟨by omega, z⟩, fun z => z.2⟩
    · rw [if_neg q, if_neg (by simp)]
      congr 1
      have : ¬ 0 < T.pl l.a := fun z => q ((pl_pos T).mpr z)
      exact vec_ext fun j _ => by rw [if_neg (by omega)]
  rw [e1, R.okb]
  have e2 : (iteR (R.ok (dcV d.l l.b).isSome) (((dgetR d l.b).bind fun x54 => (putR (vec T.m fun j => if 0 < j ∧ j = T.pl l.a then l.c else 0) x54 (-l.c))).bind fun flow53 => R.ok flow53) (R.ok (vec T.m fun j => if 0 < j ∧ j = T.pl l.a then l.c else 0))) = .ok (vec T.m (T.flow l)) := by
    rw [iteR_okb]
    unfold dgetR
    rw [hd.h _ hb]
    by_cases q : 0 < T.I.idxOf l.b
    · rw [if_pos q]
      simp only [Option.isSome_some, if_true, R.okb]
      rw [vec_put (T.pl_lt hb), R.okb]
      congr 1
      have q' := (pl_pos T).mp q
      refine vec_ext fun j _ => ?_
      unfold Isl.flow
      have := pl_inj h hb ha (Ne.symm hab) q'
      by_cases z : j = T.pl l.b
      · rw [if_pos z, if_neg (by omega), if_pos (by omega)]; omega
      · rw [if_neg z, if_neg (c := 0 < j ∧ j = T.pl l.b) (by omega)]; omega
    · rw [if_neg q, if_neg (by simp)]
      congr 1
      have : ¬ 0 < T.pl l.b := fun z => q ((pl_pos T).mpr z)
      refine vec_ext fun j _ => ?_
      unfold Isl.flow
      rw [if_neg (c := 0 < j ∧ j = T.pl l.b) (by omega)]; omega
  rw [e2, R.okb]
  have f0 : T.flow l 0 = 0 := by unfold Isl.flow; rw [if_neg (by omega), if_neg (by omega)]; rfl
  obtain ⟨p, hp⟩ : ∃ p, T.m = p + 1 := ⟨T.m - 1, by omega⟩
  have ec : cutL (vec T.m (T.flow l)) (some 1) none = vec p fun j => T.flow l (j + 1) := by rw [hp, vec_cons, cut1]
  rw [appR_ok (by show F.length < _; omega), R.okb]
  rw [vec_ixi (i := 0) ⟨by omega, by omega⟩, ec]
  simp only [R.okb]
  rw [vec_map, catR_ok (by simp; omega), R.okb, catR_ok (by simp; omega), R.okb, R.okb, catR_ok (by simp; omega), R.okb]
  have r1 : vec T.m (T.line l (-1)) = [l.d - T.flow l (0 : Int).toNat] ++ vec p fun j => -T.flow l (j + 1) := by
    rw [hp, vec_cons]
    show _ :: _ = _ :: _
    congr 1
    · show l.d = l.d - T.flow l 0
      rw [f0]; omega
    · refine vec_ext fun j _ => ?_
      unfold Isl.line
      rw [if_neg (by omega)]; omega
  have r2 : vec T.m (T.line l 1) = [l.d + T.flow l (0 : Int).toNat] ++ vec p fun j => T.flow l (j + 1) := by
    rw [hp, vec_cons]
    show _ :: _ = _ :: _
    congr 1
    · show l.d = l.d + T.flow l 0
      rw [f0]; omega
    · refine vec_ext fun j _ => ?_
      unfold Isl.line
      rw [if_neg (by omega)]; omega
  rw [r1, r2]
theorem lexc_l5 (h : IslOk T) {v : Int} (N : Net) (s : Sta) (L : List Line) (c : Int) (z : List Int) (W F : List (List Int)) (f : Nat → Int) :
    forR (f_law_conditions_l5 N s T.S L c z W F v) (rangeN T.S.length) (vec T.m f) = .ok (vec T.m fun j => f j + if 1 ≤ j ∧ j ≤ T.S.length ∧ (T.S.getD (j - 1) (T4.mk 0 0 0 false)).a = v then 1 else 0) := by
  have hm : T.m = T.S.length + T.I.length := rfl
  have := h.n1
  obtain ⟨s', e1, e2⟩ := forR_inv (f := f_law_conditions_l5 N s T.S L c z W F v) (xs := rangeN T.S.length) (s := vec T.m f) (fun i s => s = vec T.m fun j => f j + if 1 ≤ j ∧ j ≤ i ∧ (T.S.getD (j - 1) (T4.mk 0 0 0 false)).a = v then 1 else 0)
    (vec_ext fun j _ => by rw [if_neg (by omega)]; omega) fun i x s hx hs => by
      rw [rangeN_get] at hx
      split at hx
      · cases hx
        rename_i hi
        subst hs
        refine ⟨_, ?_, rfl⟩
        have ey : (T.S.getD (i + 1 - 1) (T4.mk 0 0 0 false)) = T.S[i] := by rw [List.getD_eq_getElem?_getD, Nat.add_sub_cancel, List.getElem?_eq_getElem hi]; rfl
        unfold f_law_conditions_l5
        rw [ixR_nat (x := T.S[i]) (by simp [hi])]
        simp only [R.okb, iteR_okb]
        rw [show (1 : Int) + (i : Int) = ((i + 1 : Nat) : Int) by omega]
        by_cases z : T.S[i].a = v
        · rw [if_pos (by simpa using z), vec_ix (by omega), R.okb, R.okb, vec_put (by omega), R.okb]
          congr 1
          refine vec_ext fun j hj => ?_
          by_cases e : j = i + 1
          · subst e
            rw [if_pos rfl, if_neg (by omega), if_pos ⟨by omega, by omega, by rw [ey]; exact z⟩]; omega
          · rw [if_neg e]
            congr 1
            exact ite_iff (by omega)
        · rw [if_neg (by simpa using z)]
          congr 1
          refine vec_ext fun j hj => ?_
          by_cases e : j = i + 1
          · subst e
            rw [if_neg (by omega), if_neg (fun w => z (by rw [← ey]; exact w.2.2))]
          · congr 1
            exact ite_iff (by omega)
      · cases hx
  rw [e1, e2, rangeN_len]
theorem lexc_l6 (h : IslOk T) {v : Int} (N : Net) (s : Sta) (c : Int) (hc : 1 + c = (T.m : Int)) (z : List Int) (W : List (List Int)) (f : Nat → Int) :
    forR (f_law_conditions_l6 N s T.S T.L c z W (T.L.map fun l => vec T.m (T.flow l)) v) (rangeN T.L.length) (vec T.m f) = .ok (vec T.m fun j => f j + (T.L.map fun l => sgn l v * T.flow l j).sum) := by
  have hm := h.m
  obtain ⟨s', e1, e2⟩ := forR_inv (f := f_law_conditions_l6 N s T.S T.L c z W (T.L.map fun l => vec T.m (T.flow l)) v) (xs := rangeN T.L.length) (s := vec T.m f) (fun i s => s = vec T.m fun j => f j + ((T.L.take i).map fun l => sgn l v * T.flow l j).sum)
    (vec_ext fun j _ => by simp) fun i x s hx hs => by
      rw [rangeN_get] at hx
      split at hx
      · cases hx
        rename_i hi
        subst hs
        refine ⟨_, ?_, rfl⟩
        have hl : T.L[i] ∈ T.L := List.getElem_mem _
        have hab := (h.ll _ hl).1
        have hs : ((if decide (T.L[i].b = v) = true then (1 : Int) else 0) - (if decide (T.L[i].a = v) = true then (1 : Int) else 0)) = sgn T.L[i] v := by
          unfold sgn
          simp only [decide_eq_true_eq]
          by_cases p : T.L[i].a = v
          · rw [if_neg (by omega), if_pos p, if_pos p]; rfl
          · rw [if_neg p, if_neg p]; omega
        unfold f_law_conditions_l6
        rw [ixR_nat (x := T.L[i]) (by simp [hi])]
        simp only [R.okb]
        rw [hs, hc, rng1_nat (by omega), R.okb, rangeN_vec, vec_mapR (q := fun j => (f j + ((T.L.take i).map fun l => sgn l v * T.flow l j).sum) + sgn T.L[i] v * T.flow T.L[i] j) fun j hj => ?_]
        · rw [noX_ok, R.okb]
          congr 1
          refine vec_ext fun j _ => ?_
          rw [List.take_add_one, List.getElem?_eq_getElem hi, List.map_append, List.sum_append]
          simp only [Option.toList_some, List.map_cons, List.map_nil, List.sum_cons, List.sum_nil]; omega
        · rw [vec_ix hj, R.okb, ixR_nat (x := vec T.m (T.flow T.L[i])) (by simp [hi]), R.okb, vec_ix hj, R.okb, mulR_l (by unfold sgn; split; omega; split <;> omega), R.okb]
      · cases hx
  rw [e1, e2, rangeN_len, List.take_of_length_le (Nat.le_refl _)]
theorem law_cond_ok (h : Good N s n) {I : List Int} (hI : I ∈ islL n (marks (edges N s))) : f_law_conditions N s I = .ok (islT N s I).rows := by
  have k := islT_ok h hI
  have e1 : f_law_stations N s I = .ok (islT N s I).S := law_st_ok h I
  have e2 : f_law_lines N s I = .ok (islT N s I).L := law_ln_ok h I
  have efed : ∀ v ∈ (islT N s I).I, f_law_fed N s v = .ok ((islT N s I).fed v) := fun v hv => fed_ok h hv
  have eI : I = (islT N s I).I := rfl
  unfold f_law_conditions
  rw [e1, R.okb, e2, R.okb, R.okb]
  generalize islT N s I = T at k efed eI
  subst eI
  have hm := k.m
  have h1 := k.n1
  have ec : (1 : Int) + ((T.S.length : Int) + (T.I.length : Int) - 1) = ((T.m : Nat) : Int) := by
    show _ = ((T.S.length + T.I.length : Nat) : Int)
    omega
  rw [ec, repR_one (by omega), R.okb, vec_zero, R.okb]
  obtain ⟨xs, d, er, ed, hd⟩ := plc_ok k N s T.S rfl T.L ((T.S.length : Int) + (T.I.length : Int) - 1) (vec T.m fun _ => 0)
  rw [er, R.okb, ed, R.okb, R.okb, rng1_nat (by have := k.s; omega), R.okb]
  obtain ⟨s1, f1, q1⟩ := forR_inv (f := f_law_conditions_l2 N s T.I T.S T.L ((T.S.length : Int) + (T.I.length : Int) - 1) (vec T.m fun _ => 0) d) (xs := rangeN T.S.length) (s := []) (fun i s => s = (((T.S.zipIdx).take i).map fun p => [vec T.m (T.low p.2 p.1), vec T.m (T.high p.2 p.1)]).flatten) rfl fun i x s hx hs => by
    rw [rangeN_get] at hx
    split at hx
    · cases hx
      rename_i hi
      subst hs
      have hms : T.m = T.S.length + T.I.length := rfl
      refine ⟨_, ?_, rfl⟩
      unfold f_law_conditions_l2
      rw [ixR_nat (x := T.S[i]) (by simp [hi])]
      simp only [R.okb]
      rw [vec_puti ⟨by omega, by omega⟩, R.okb, show (1 : Int) + (i : Int) = ((1 + i : Nat) : Int) by omega, vec_put (by omega), R.okb, vec_puti ⟨by omega, by omega⟩, R.okb, vec_put (by omega), R.okb, catR_ok, R.okb]
      · refine congrArg R.ok ?_
        rw [List.take_add_one, List.getElem?_zipIdx, List.getElem?_eq_getElem hi, List.map_append, List.flatten_append]
        refine congrArg (_ ++ ·) ?_
        simp only [Option.map_some, Option.toList_some, List.map_cons, List.map_nil, List.flatten_cons, List.flatten_nil, List.append_nil, Nat.zero_add]
        rfl
      · rw [two_len]
        have := k.s
        rw [List.length_take]
        simp; omega
    · cases hx
  have q1' : s1 = ((T.S.zipIdx).map fun p => [vec T.m (T.low p.2 p.1), vec T.m (T.high p.2 p.1)]).flatten := by
    rw [q1, rangeN_len, List.take_of_length_le (by simp)]
  have l1 : s1.length ≤ 8 := by
    have := k.s
    rw [q1', two_len, List.length_zipIdx]; omega
  rw [f1, R.okb, R.okb, R.okb]
  clear q1 f1
  obtain ⟨s2, f2, q2⟩ := forR_inv (f := f_law_conditions_l3 N s T.I T.S T.L ((T.S.length : Int) + (T.I.length : Int) - 1) (vec T.m fun _ => 0) d) (xs := T.L) (s := (s1, [])) (fun i s => s = (s1 ++ ((T.L.take i).map fun l => [vec T.m (T.line l (-1)), vec T.m (T.line l 1)]).flatten, (T.L.take i).map fun l => vec T.m (T.flow l))) (by simp) fun i l s hx hs => by
    subst hs
    have := k.l
    refine ⟨_, law_l3 k hd _ _ _ _ _ _ (List.mem_of_getElem? hx) _ _ (by rw [List.length_append, two_len, List.length_take]; omega) (by rw [List.length_map, List.length_take]; omega), ?_⟩
    rw [List.take_add_one, hx, List.map_append, List.map_append, List.flatten_append]
    simp
  rw [List.take_of_length_le (Nat.le_refl _)] at q2
  rw [f2, R.okb, R.okb, q2]
  have l2 : (s1 ++ (T.L.map fun l => [vec T.m (T.line l (-1)), vec T.m (T.line l 1)]).flatten).length ≤ 24 := by
    have := k.l
    rw [List.length_append, two_len]; omega
  clear f2 q2
  obtain ⟨s3, f3, q3⟩ := forR_inv (f := f_law_conditions_l4 N s T.S T.L ((T.S.length : Int) + (T.I.length : Int) - 1) (vec T.m fun _ => 0) (T.L.map fun l => vec T.m (T.flow l))) (xs := T.I) (s := s1 ++ (T.L.map fun l => [vec T.m (T.line l (-1)), vec T.m (T.line l 1)]).flatten) (fun i s => s = s1 ++ (T.L.map fun l => [vec T.m (T.line l (-1)), vec T.m (T.line l 1)]).flatten ++ ((T.I.take i).map fun v => [vec T.m (T.exc v), vec T.m fun j => -T.exc v j]).flatten) (by simp) fun i v s hx hs => by
    subst hs
    have hv := List.mem_of_getElem? hx
    have hi := (List.getElem?_eq_some_iff.mp hx).1
    refine ⟨_, ?_, rfl⟩
    unfold f_law_conditions_l4
    rw [R.okb, efed v hv, R.okb, R.okb, vec_puti ⟨by omega, by omega⟩, R.okb, rng1_nat (by have := k.s; omega), R.okb, lexc_l5 k, R.okb, rng1_nat (by have := k.l; omega), R.okb, lexc_l6 k _ _ _ ec, R.okb, vec_map, catR_ok, R.okb]
    · refine congrArg R.ok ?_
      rw [List.take_add_one, hx, List.map_append, List.flatten_append]
      simp only [Option.toList_some, List.map_cons, List.map_nil, List.flatten_cons, List.flatten_nil, List.append_nil]
      rw [← List.append_assoc]
      rfl
    · have := k.n2
      have q2 : ((T.I.take i).map fun v => [vec T.m (T.exc v), vec T.m fun j => -T.exc v j]).flatten.length ≤ 16 := by rw [two_len, List.length_take]; omega
      rw [List.length_append]
      show _ + _ + 2 ≤ _
      omega
  rw [f3, R.okb, q3, List.take_of_length_le (Nat.le_refl _), q1']
  rfl
theorem cond_of_ok (h : Good N s n) {I : List Int} (hI : I ∈ islL n (marks (edges N s))) : f_conditions_of N s I = .ok (islT N s I).rows := by
  unfold f_conditions_of
  rw [init_ok h, R.okb, cond_ok (islT_ok h hI)]
end
end Lw

set_option Elab.async false
set_option linter.all false
set_option maxRecDepth 100000
set_option maxHeartbeats 4000000
/-! PR: what the laws have in common: repr of net and state, rows that grow. -/
namespace Lw
open PySem Tx En
theorem net_shw {N : Net} {m : Int} (h : NetOk m N) (hm : m ≤ 8) : Shw.ok N ∧ Shw.wt N ≤ 100 := by
  have hn := h.n
  have sm : ∀ i : Int, 0 ≤ i → i ≤ 1000 → Shw.ok i := fun i h1 h2 => small_ok (by omega)
  refine ⟨⟨sm _ (by omega) (by omega), fun x hx => ?_, fun x hx => ?_, fun x hx => ?_⟩, ?_⟩
  · have q := h.ls x hx
    have := q.a; have := q.s; have := q.l
    exact ⟨sm _ (by omega) (by omega), sm _ (by omega) (by omega), sm _ (by omega) (by omega), sm _ (by omega) (by omega)⟩
  · have q := h.ss x hx
    have := q.a; have := q.l
    exact ⟨sm _ (by omega) (by omega), sm _ (by omega) (by omega), sm _ (by omega) (by omega), trivial⟩
  · have q := h.ds x hx
    have := q.a; have := q.l
    exact ⟨sm _ (by omega) (by omega), sm _ (by omega) (by omega)⟩
  · have e1 : (N.b.map Shw.wt).sum ≤ 5 * N.b.length := sum_le fun x _ => by show 1 + 1 + 1 + 1 + 1 ≤ 5; omega
    have e2 : (N.c.map Shw.wt).sum ≤ 5 * N.c.length := sum_le fun x _ => by show 1 + 1 + 1 + 1 + 1 ≤ 5; omega
    have e3 : (N.d.map Shw.wt).sum ≤ 3 * N.d.length := sum_le fun x _ => by show 1 + 1 + 1 ≤ 3; omega
    have := h.l1; have := h.l2; have := h.l3
    show 1 + ((N.b.map Shw.wt).sum + 1) + ((N.c.map Shw.wt).sum + 1) + ((N.d.map Shw.wt).sum + 1) + 1 ≤ 100
    omega
theorem ix_len {n : Nat} {l : List Int} (h : IxOk n l) : l.length ≤ n := nodup_le (h.up.imp fun h => by omega) h.lt
theorem ints_wt (l : List Int) : (l.map Shw.wt).sum ≤ l.length := by
  have : (l.map Shw.wt).sum ≤ 1 * l.length := sum_le fun x _ => Nat.le_refl 1
  omega
theorem sta_shw {N : Net} {s : Sta} {m : Int} (h : NetOk m N) (k : StaOk N s) : Shw.ok s ∧ Shw.wt s ≤ 100 := by
  have l1 := ix_len k.c; have l2 := ix_len k.r; have l3 := ix_len k.f
  have := h.l1; have := h.l2; have := h.l3
  refine ⟨⟨fun x hx => ?_, fun x hx => ?_, fun x hx => ?_⟩, ?_⟩
  · have := k.c.lt x hx; exact small_ok (by omega)
  · have := k.r.lt x hx; exact small_ok (by omega)
  · have := k.f.lt x hx; exact small_ok (by omega)
  · have e1 := ints_wt s.a.l; have e2 := ints_wt s.b.l; have e3 := ints_wt s.c.l
    show ((s.a.l.map Shw.wt).sum + 1) + ((s.b.l.map Shw.wt).sum + 1) + ((s.c.l.map Shw.wt).sum + 1) + 1 ≤ 100
    omega
theorem repr_ns {N : Net} {s : Sta} {m : Int} (h : NetOk m N) (hm : m ≤ 8) (k : StaOk N s) : reprR (en ([en N, en s] : List D)) = .ok (en ([en N, en s] : List D)).shown := by
  have a := net_shw h hm
  have b := sta_shw h k
  exact repr_two N s a.1 b.1 (by omega) (by decide)
/-- each row with minus its place behind it -/
def grown (W : List (List Int)) : List (List Int) := W.mapIdx fun j r => r ++ [-(j : Int)]
theorem grow_map (W : List (List Int)) (hl : W.length ≤ 1000) (hr : ∀ r ∈ W, r.length ≤ 100000) : mapR (fun v : Int => (ixR W v).bind fun x => catR x [-v]) (rangeN W.length) = .ok (grown W) := by
  rw [mapR_of (g := fun v => W.getD v.toNat [] ++ [-v]) (fun v hv => ?_)]
  · congr 1
    unfold grown rangeN
    rw [List.map_map]
    apply List.ext_getElem?
    intro j
    rw [List.getElem?_map, List.getElem?_mapIdx]
    by_cases h : j < W.length
    · rw [List.getElem?_range h, List.getElem?_eq_getElem h]
      simp [List.getD_eq_getElem?_getD, h]
    · rw [List.getElem?_eq_none (by simp; omega), List.getElem?_eq_none (by omega)]; rfl
  · have := rangeN_mem.mp hv
    have q := hr _ (getD_mem (d := []) this)
    rw [ixR_D [] this.1 this.2, R.okb, catR_ok (by show (W.getD v.toNat []).length + 1 ≤ _; omega)]
theorem grow_loop {f : Int → List (List Int) → R (List (List Int))} (hf : ∀ k s, f k s = (ixP s k).bind fun q => (appR q.1 (-k)).bind fun c => .ok (q.2 c)) (W : List (List Int)) (hr : ∀ r ∈ W, r.length ≤ 100000) : forR f (rangeN W.length) W = .ok (grown W) := by
  obtain ⟨s', e1, e2⟩ := forR_inv (f := f) (xs := rangeN W.length) (s := W) (fun i s => s = W.mapIdx fun j r => if j < i then r ++ [-(j : Int)] else r) (by
    apply List.ext_getElem?
    intro j
    rw [List.getElem?_mapIdx]
    cases W[j]? <;> simp) fun i x s hx hs => by
    rw [rangeN_get] at hx
    split at hx
    · cases hx
      rename_i hi
      have hsi : s[i]? = some W[i] := by
        rw [hs, List.getElem?_mapIdx, List.getElem?_eq_getElem hi]; simp
      refine ⟨_, ?_, rfl⟩
      rw [hf, ixP_nat hsi, R.okb, appR_ok (by have := hr W[i] (List.getElem_mem _); show W[i].length < _; omega), R.okb]
      congr 1
      show s.set i (W[i] ++ [-(i : Int)]) = _
      apply List.ext_getElem?
      intro j
      rw [List.getElem?_mapIdx]
      by_cases hj : j = i
      · subst hj
        rw [List.getElem?_set_self (by rw [hs, List.length_mapIdx]; exact hi), List.getElem?_eq_getElem hi]; simp
      · rw [List.getElem?_set_ne (Ne.symm hj), hs, List.getElem?_mapIdx]
        cases W[j]? with
        | none => rfl
        | some r =>
          simp only [Option.map_some]
          have : (j < i) = (j < i + 1) := by simp; omega
          simp only [this]
    · cases hx
  rw [e1, e2, rangeN_len]
  congr 1
  unfold grown
  apply List.ext_getElem?
  intro j
  rw [List.getElem?_mapIdx, List.getElem?_mapIdx]
  by_cases h : j < W.length
  · rw [List.getElem?_eq_getElem h]; simp [h]
  · rw [List.getElem?_eq_none (by omega)]; rfl
theorem cutL_le {α : Type} (xs : List α) (lo hi : Option Int) : (cutL xs lo hi).length ≤ xs.length := by
  unfold cutL
  rw [List.length_take, List.length_drop]; omega
end Lw

set_option Elab.async false
set_option linter.all false
set_option maxRecDepth 100000
set_option maxHeartbeats 4000000
/-! PC3: how big the conditions are. -/
namespace Lw
open PySem Tx En
section
variable {T : Isl}
theorem isum_le {α : Type} {f : α → Int} {c : Nat} : ∀ {l : List α}, (∀ x ∈ l, (f x).natAbs ≤ c) → (l.map f).sum.natAbs ≤ c * l.length
  | [], _ => by simp
  | a :: l, h => by
    have h1 := h a List.mem_cons_self
    have h2 := isum_le (l := l) fun x hx => h x (List.mem_cons_of_mem _ hx)
    simp only [List.map_cons, List.sum_cons, List.length_cons, Nat.mul_add, Nat.mul_one]; omega
theorem flow_small (h : IslOk T) {l : Line} (hl : l ∈ T.L) (j : Nat) : (T.flow l j).natAbs ≤ 1000 := by
  have := (h.ll l hl).2.1
  unfold Isl.flow
  split <;> split <;> omega
theorem fed_small (h : IslOk T) (v : Int) : 0 ≤ T.fed v ∧ T.fed v ≤ 4000 := by
  have hd := h.d
  have e1 : (T.fed v).natAbs ≤ 1000 * (T.D.filter fun x => decide (x.1 = v)).length := isum_le fun x hx => by
    have := (h.dl x (List.mem_filter.mp hx).1).2; omega
  have e2 := List.length_filter_le (fun x : Int × Int => decide (x.1 = v)) T.D
  have e3 : ∀ l : List (Int × Int), (∀ x ∈ l, 0 ≤ x.2) → 0 ≤ (l.map (·.2)).sum := by
    intro l
    induction l with
    | nil => intro _; exact Int.le_refl _
    | cons a l ih =>
      intro hl
      have := hl a List.mem_cons_self
      have := ih fun x hx => hl x (List.mem_cons_of_mem _ hx)
      simp only [List.map_cons, List.sum_cons]; omega
  have e4 : 0 ≤ T.fed v := e3 _ fun x hx => by have := (h.dl x (List.mem_filter.mp hx).1).2; omega
  omega
theorem exc_small (h : IslOk T) (v : Int) (j : Nat) : (T.exc v j).natAbs ≤ 12001 := by
  have e1 : (T.L.map fun l => sgn l v * T.flow l j).sum.natAbs ≤ 1000 * T.L.length := isum_le fun l hl => by
    have := flow_small h hl j
    unfold sgn
    split
    · omega
    · split <;> omega
  have := h.l
  have := fed_small h v
  unfold Isl.exc
  split <;> split <;> omega
theorem low_small (h : IslOk T) {x : Stat} (hx : x ∈ T.S) (k j : Nat) : (T.low k x j).natAbs ≤ 1000 := by
  have := h.sl x hx
  unfold Isl.low
  split
  · omega
  · split <;> omega
theorem high_small (h : IslOk T) {x : Stat} (hx : x ∈ T.S) (k j : Nat) : (T.high k x j).natAbs ≤ 1000 := by
  have := h.sl x hx
  unfold Isl.high
  split
  · omega
  · split <;> omega
theorem line_small (h : IslOk T) {l : Line} (hl : l ∈ T.L) {g : Int} (hg : g = 1 ∨ g = -1) (j : Nat) : (T.line l g j).natAbs ≤ 1000 := by
  have := flow_small h hl j
  have := (h.ll l hl).2.2
  unfold Isl.line
  split
  · omega
  · rcases hg with rfl | rfl <;> omega
theorem rows_len (T : Isl) : T.rows.length = 2 * T.S.length + 2 * T.L.length + 2 * T.I.length := by
  unfold Isl.rows
  rw [List.length_append, List.length_append, two_len, two_len, two_len, List.length_zipIdx]
theorem row_cases {P : List Int → Prop} (h1 : ∀ (k : Nat) (x : Stat), T.S[k]? = some x → P (vec T.m (T.low k x)) ∧ P (vec T.m (T.high k x))) (h2 : ∀ l ∈ T.L, P (vec T.m (T.line l (-1))) ∧ P (vec T.m (T.line l 1))) (h3 : ∀ v ∈ T.I, P (vec T.m (T.exc v)) ∧ P (vec T.m fun j => -T.exc v j)) : ∀ r ∈ T.rows, P r := by
  intro r hr
  unfold Isl.rows at hr
  rw [List.mem_append, List.mem_append] at hr
  rcases hr with (hr | hr) | hr
  · obtain ⟨l, hl, hr⟩ := List.mem_flatten.mp hr
    obtain ⟨p, hp, rfl⟩ := List.mem_map.mp hl
    have := List.mem_zipIdx_iff_getElem?.mp hp
    have := h1 p.2 p.1 this
    simp only [List.mem_cons, List.not_mem_nil, or_false] at hr
    rcases hr with rfl | rfl
    · exact this.1
    · exact this.2
  · obtain ⟨l, hl, hr⟩ := List.mem_flatten.mp hr
    obtain ⟨p, hp, rfl⟩ := List.mem_map.mp hl
    have := h2 p hp
    simp only [List.mem_cons, List.not_mem_nil, or_false] at hr
    rcases hr with rfl | rfl
    · exact this.1
    · exact this.2
  · obtain ⟨l, hl, hr⟩ := List.mem_flatten.mp hr
    obtain ⟨p, hp, rfl⟩ := List.mem_map.mp hl
    have := h3 p hp
    simp only [List.mem_cons, List.not_mem_nil, or_false] at hr
    rcases hr with rfl | rfl
    · exact this.1
    · exact this.2
theorem rows_small (h : IslOk T) : ∀ r ∈ T.rows, r.length = T.m ∧ ∀ x ∈ r, x.natAbs ≤ 12001 := by
  refine row_cases (fun k x hx => ⟨⟨by simp, fun y hy => ?_⟩, ⟨by simp, fun y hy => ?_⟩⟩) (fun l hl => ⟨⟨by simp, fun y hy => ?_⟩, ⟨by simp, fun y hy => ?_⟩⟩) (fun v hv => ⟨⟨by simp, fun y hy => ?_⟩, ⟨by simp, fun y hy => ?_⟩⟩) <;> obtain ⟨j, _, rfl⟩ := vec_mem.mp hy
  · have := low_small h (List.mem_of_getElem? hx) k j; omega
  · have := high_small h (List.mem_of_getElem? hx) k j; omega
  · have := line_small h hl (.inr rfl) j; omega
  · have := line_small h hl (.inl rfl) j; omega
  · exact exc_small h v j
  · have := exc_small h v j; omega
theorem rows_repr (h : IslOk T) : reprR (en T.rows) = .ok (en T.rows).shown := by
  have hs := rows_small h
  have hl := rows_len T
  have := h.s; have := h.l; have := h.n2; have hm := h.m
  refine repr_of T.rows (fun r hr x hx => small_ok (by have := (hs r hr).2 x hx; omega)) ?_ (by decide)
  have : (T.rows.map Shw.wt).sum ≤ 13 * T.rows.length := sum_le fun r hr => by
    have h1 := ints_wt r
    have h2 := (hs r hr).1
    show (r.map Shw.wt).sum + 1 ≤ 13; omega
  show (T.rows.map Shw.wt).sum + 1 ≤ 20000; omega
end
end Lw

set_option Elab.async false
set_option linter.all false
set_option maxRecDepth 100000
set_option maxHeartbeats 4000000
/-! PX: the law k04 holds, plainly. -/
namespace Lw
open PySem Tx En
section
variable {N : Net} {s : Sta} {n : Nat}
theorem l2_ok (h : Good N s n) {I : List Int} (hI : I ∈ islL n (marks (edges N s))) : f_law_l2 N s (en ([en N, en s] : List D)).shown I () = .ok (.nx ()) := by
  have k := islT_ok h hI
  have e1 := cond_of_ok h hI
  have e2 := law_cond_ok h hI
  have hs := rows_small k
  have hl := rows_len (islT N s I)
  have hr := rows_repr k
  have hm := k.m
  have := k.s; have := k.l; have := k.n2
  unfold f_law_l2
  rw [e1, e2]
  generalize (islT N s I).rows = W at hs hl hr
  simp only [R.okb]
  rw [hr]
  simp only [R.okb, Bool.not_true, orR_f, ne_eq, not_true_eq_false, decide_false, iteR_okb, Bool.false_eq_true, if_false]
  rw [rng1_nat (by omega), R.okb,
    grow_loop (fun k s => by unfold f_law_l3; exact R.bind_eta _) W (fun r hr => by have := (hs r hr).1; omega), R.okb]
  simp only [R.okb]
  rw [grow_map W (by omega) (fun r hr => by have := (hs r hr).1; omega), repr_ns h.no (by decide) h.s]
  simp only [noX_ok, R.okb, orR_f, not_true_eq_false, decide_false, iteR_okb, Bool.false_eq_true, if_false]
end
theorem l1_ok {N : Net} (h0 : NetOk 6 N) (x : Int) : f_law_l1 N x () = .ok (.nx ()) := by
  unfold f_law_l1
  obtain ⟨s, e1, hs⟩ := state_ok x N ⟨h0.l1, h0.l2, h0.l3⟩
  obtain ⟨n, h, _⟩ := good_of h0 (by decide) hs
  rw [e1]
  simp only [R.okb]
  rw [repr_ns h0 (by decide) hs, law_isl_ok h]
  simp only [R.okb]
  rw [loopR_unit fun I hI => l2_ok h hI, thenR_l]
theorem plain (ns : List Int) (hl : ns.length ≤ 63) : f_law ns = .ok true := by
  unfold f_law
  have c0 : f_law_cell ns 0 = .ok (ns.getD 0 0) := cell_ok ns 0
  have c1 : f_law_cell ns 1 = .ok (ns.getD 1 0) := cell_ok ns 1
  obtain ⟨N, e, h⟩ := net_ok (ns.getD 0 0) (ns.getD 1 0) 6 (by decide)
  rw [c0, c1]
  simp only [R.okb]
  rw [e]
  simp only [R.okb]
  rw [catR_ok (by have := cutL_le ns (some 2) (some 12); simp; omega), R.okb, loopR_unit fun x _ => l1_ok h x]
  rfl
end Lw

set_option Elab.async false
set_option linter.all false
set_option maxRecDepth 100000
set_option maxHeartbeats 4000000
namespace Lw
open PySem L2 PyProof.Rows Tx En EnL
theorem all_mk {l : PySem.W.OpenLaw} {w : World} {K : PySem.W.Frag} {h : Heap} {mg : Str → Option Value} {fa : Addr} (X : K.In h) (G : h.Ns mainGlobals mg) (hfa : mg "law" = some (.ref fa))
    {C_Island : Addr}
    {f0 : Addr} {od0 an0 : Option Addr} {sl0 : Array (Option Value)} {oc0 kV0 dc0 pm0 cd0 ct0 : Value}
    {f1 : Addr} {od1 an1 : Option Addr} {sl1 : Array (Option Value)} {oc1 kV1 dc1 pm1 cd1 ct1 : Value}
    {f2 : Addr} {od2 an2 : Option Addr} {sl2 : Array (Option Value)} {oc2 kV2 dc2 pm2 cd2 ct2 : Value}
    {f3 : Addr} {od3 an3 : Option Addr} {sl3 : Array (Option Value)} {oc3 kV3 dc3 pm3 cd3 ct3 : Value}
    {f4 : Addr} {od4 an4 : Option Addr} {sl4 : Array (Option Value)} {oc4 kV4 dc4 pm4 cd4 ct4 : Value}
    {f5 : Addr} {od5 an5 : Option Addr} {sl5 : Array (Option Value)} {oc5 kV5 dc5 pm5 cd5 ct5 : Value}
    {f6 : Addr} {od6 an6 : Option Addr} {sl6 : Array (Option Value)} {oc6 kV6 dc6 pm6 cd6 ct6 : Value}
    {f7 : Addr} {od7 an7 : Option Addr} {sl7 : Array (Option Value)} {oc7 kV7 dc7 pm7 cd7 ct7 : Value}
    {f8 : Addr} {od8 an8 : Option Addr} {sl8 : Array (Option Value)} {oc8 kV8 dc8 pm8 cd8 ct8 : Value}
    {f9 : Addr} {od9 an9 : Option Addr} {sl9 : Array (Option Value)} {oc9 kV9 dc9 pm9 cd9 ct9 : Value}
    {f10 : Addr} {od10 an10 : Option Addr} {sl10 : Array (Option Value)} {oc10 kV10 dc10 pm10 cd10 ct10 : Value}
    {f11 : Addr} {od11 an11 : Option Addr} {sl11 : Array (Option Value)} {oc11 kV11 dc11 pm11 cd11 ct11 : Value}
    {f12 : Addr} {od12 an12 : Option Addr} {sl12 : Array (Option Value)} {oc12 kV12 dc12 pm12 cd12 ct12 : Value}
    {f13 : Addr} {od13 an13 : Option Addr} {sl13 : Array (Option Value)} {oc13 kV13 dc13 pm13 cd13 ct13 : Value}
    {f14 : Addr} {od14 an14 : Option Addr} {sl14 : Array (Option Value)} {oc14 kV14 dc14 pm14 cd14 ct14 : Value}
    {f15 : Addr} {od15 an15 : Option Addr} {sl15 : Array (Option Value)} {oc15 kV15 dc15 pm15 cd15 ct15 : Value}
    {f16 : Addr} {od16 an16 : Option Addr} {sl16 : Array (Option Value)} {oc16 kV16 dc16 pm16 cd16 ct16 : Value}
    {f17 : Addr} {od17 an17 : Option Addr} {sl17 : Array (Option Value)} {oc17 kV17 dc17 pm17 cd17 ct17 : Value}
    (q1_Island : PySem.W.nsIn K mainGlobals "Island" = some (some (.ref C_Island))) (q2_Island : PySem.W.plainGet K C_Island Str.empty = true) (q3_Island : PySem.W.hasDictIn K C_Island = true) (q4_Island : PySem.W.plainOver K C_Island = true) (q5_Island : PySem.W.findIn K (.ref C_Island) "__setattr__" = some (some (.builtin "object.__setattr__"))) (q6_Island : PySem.W.makesIn K C_Island = true) (q7_Island : PySem.W.keepIn K (.ref C_Island) = true)
    (n_Island_nodes : PySem.W.findIn K (.ref C_Island) "nodes" = some none)
    (n_Island_stations : PySem.W.findIn K (.ref C_Island) "stations" = some none)
    (n_Island_lines : PySem.W.findIn K (.ref C_Island) "lines" = some none)
    (n_Island_loads : PySem.W.findIn K (.ref C_Island) "loads" = some none)
    (n_Island_count : PySem.W.findIn K (.ref C_Island) "count" = some none)
    (a0 : PySem.W.findIn K (.ref C_Island) "__init__" = some (some (.ref f0))) (i0 : PySem.W.isFn K (.ref f0) = true) (l0 : K.lookup f0 = some ⟨oc0, od0, .func (PySem.W.fnOf "__init__" "Island.__init__" (defArgs s_Island_init) (defBody s_Island_init) (defScope s_Island_init) .none kV0 dc0 pm0 an0 cd0 ct0), sl0⟩) (c0 : PySem.W.codeIn K cd0 "Island.__init__" = true) (k0 : PySem.W.keepIn K (.ref f0) = true)
    (a1 : PySem.W.findIn K (.ref C_Island) "blank" = some (some (.ref f1))) (i1 : PySem.W.isFn K (.ref f1) = true) (l1 : K.lookup f1 = some ⟨oc1, od1, .func (PySem.W.fnOf "blank" "Island.blank" (defArgs s_Island_blank) (defBody s_Island_blank) (defScope s_Island_blank) .none kV1 dc1 pm1 an1 cd1 ct1), sl1⟩) (c1 : PySem.W.codeIn K cd1 "Island.blank" = true) (k1 : PySem.W.keepIn K (.ref f1) = true)
    (a2 : PySem.W.findIn K (.ref C_Island) "add_potential" = some (some (.ref f2))) (i2 : PySem.W.isFn K (.ref f2) = true) (l2 : K.lookup f2 = some ⟨oc2, od2, .func (PySem.W.fnOf "add_potential" "Island.add_potential" (defArgs s_Island_add_potential) (defBody s_Island_add_potential) (defScope s_Island_add_potential) .none kV2 dc2 pm2 an2 cd2 ct2), sl2⟩) (c2 : PySem.W.codeIn K cd2 "Island.add_potential" = true) (k2 : PySem.W.keepIn K (.ref f2) = true)
    (a3 : PySem.W.findIn K (.ref C_Island) "flow" = some (some (.ref f3))) (i3 : PySem.W.isFn K (.ref f3) = true) (l3 : K.lookup f3 = some ⟨oc3, od3, .func (PySem.W.fnOf "flow" "Island.flow" (defArgs s_Island_flow) (defBody s_Island_flow) (defScope s_Island_flow) .none kV3 dc3 pm3 an3 cd3 ct3), sl3⟩) (c3 : PySem.W.codeIn K cd3 "Island.flow" = true) (k3 : PySem.W.keepIn K (.ref f3) = true)
    (a4 : PySem.W.findIn K (.ref C_Island) "excess" = some (some (.ref f4))) (i4 : PySem.W.isFn K (.ref f4) = true) (l4 : K.lookup f4 = some ⟨oc4, od4, .func (PySem.W.fnOf "excess" "Island.excess" (defArgs s_Island_excess) (defBody s_Island_excess) (defScope s_Island_excess) .none kV4 dc4 pm4 an4 cd4 ct4), sl4⟩) (c4 : PySem.W.codeIn K cd4 "Island.excess" = true) (k4 : PySem.W.keepIn K (.ref f4) = true)
    (a5 : PySem.W.findIn K (.ref C_Island) "conditions" = some (some (.ref f5))) (i5 : PySem.W.isFn K (.ref f5) = true) (l5 : K.lookup f5 = some ⟨oc5, od5, .func (PySem.W.fnOf "conditions" "Island.conditions" (defArgs s_Island_conditions) (defBody s_Island_conditions) (defScope s_Island_conditions) .none kV5 dc5 pm5 an5 cd5 ct5), sl5⟩) (c5 : PySem.W.codeIn K cd5 "Island.conditions" = true) (k5 : PySem.W.keepIn K (.ref f5) = true)
    (a6 : PySem.W.nsIn K mainGlobals "conditions_of" = some (some (.ref f6))) (l6 : K.lookup f6 = some ⟨oc6, od6, .func (PySem.W.fnOf "conditions_of" "conditions_of" (defArgs s_conditions_of) (defBody s_conditions_of) (defScope s_conditions_of) .none kV6 dc6 pm6 an6 cd6 ct6), sl6⟩) (c6 : PySem.W.codeIn K cd6 "conditions_of" = true) (k6 : PySem.W.keepIn K (.ref f6) = true)
    (a7 : PySem.W.nsIn K mainGlobals "_law_cell" = some (some (.ref f7))) (l7 : K.lookup f7 = some ⟨oc7, od7, .func (PySem.W.fnOf "_law_cell" "_law_cell" (defArgs s_law_cell) (defBody s_law_cell) (defScope s_law_cell) .none kV7 dc7 pm7 an7 cd7 ct7), sl7⟩) (c7 : PySem.W.codeIn K cd7 "_law_cell" = true) (k7 : PySem.W.keepIn K (.ref f7) = true)
    (a8 : PySem.W.nsIn K mainGlobals "_law_draws" = some (some (.ref f8))) (l8 : K.lookup f8 = some ⟨oc8, od8, .func (PySem.W.fnOf "_law_draws" "_law_draws" (defArgs s_law_draws) (defBody s_law_draws) (defScope s_law_draws) .none kV8 dc8 pm8 an8 cd8 ct8), sl8⟩) (c8 : PySem.W.codeIn K cd8 "_law_draws" = true) (k8 : PySem.W.keepIn K (.ref f8) = true)
    (a9 : PySem.W.nsIn K mainGlobals "_law_net" = some (some (.ref f9))) (l9 : K.lookup f9 = some ⟨oc9, od9, .func (PySem.W.fnOf "_law_net" "_law_net" (defArgs s_law_net) (defBody s_law_net) (defScope s_law_net) .none kV9 dc9 pm9 an9 cd9 ct9), sl9⟩) (c9 : PySem.W.codeIn K cd9 "_law_net" = true) (k9 : PySem.W.keepIn K (.ref f9) = true)
    (a10 : PySem.W.nsIn K mainGlobals "_law_some" = some (some (.ref f10))) (l10 : K.lookup f10 = some ⟨oc10, od10, .func (PySem.W.fnOf "_law_some" "_law_some" (defArgs s_law_some) (defBody s_law_some) (defScope s_law_some) .none kV10 dc10 pm10 an10 cd10 ct10), sl10⟩) (c10 : PySem.W.codeIn K cd10 "_law_some" = true) (k10 : PySem.W.keepIn K (.ref f10) = true)
    (a11 : PySem.W.nsIn K mainGlobals "_law_state" = some (some (.ref f11))) (l11 : K.lookup f11 = some ⟨oc11, od11, .func (PySem.W.fnOf "_law_state" "_law_state" (defArgs s_law_state) (defBody s_law_state) (defScope s_law_state) .none kV11 dc11 pm11 an11 cd11 ct11), sl11⟩) (c11 : PySem.W.codeIn K cd11 "_law_state" = true) (k11 : PySem.W.keepIn K (.ref f11) = true)
    (a12 : PySem.W.nsIn K mainGlobals "_law_islands" = some (some (.ref f12))) (l12 : K.lookup f12 = some ⟨oc12, od12, .func (PySem.W.fnOf "_law_islands" "_law_islands" (defArgs s_law_islands) (defBody s_law_islands) (defScope s_law_islands) .none kV12 dc12 pm12 an12 cd12 ct12), sl12⟩) (c12 : PySem.W.codeIn K cd12 "_law_islands" = true) (k12 : PySem.W.keepIn K (.ref f12) = true)
    (a13 : PySem.W.nsIn K mainGlobals "_law_stations" = some (some (.ref f13))) (l13 : K.lookup f13 = some ⟨oc13, od13, .func (PySem.W.fnOf "_law_stations" "_law_stations" (defArgs s_law_stations) (defBody s_law_stations) (defScope s_law_stations) .none kV13 dc13 pm13 an13 cd13 ct13), sl13⟩) (c13 : PySem.W.codeIn K cd13 "_law_stations" = true) (k13 : PySem.W.keepIn K (.ref f13) = true)
    (a14 : PySem.W.nsIn K mainGlobals "_law_lines" = some (some (.ref f14))) (l14 : K.lookup f14 = some ⟨oc14, od14, .func (PySem.W.fnOf "_law_lines" "_law_lines" (defArgs s_law_lines) (defBody s_law_lines) (defScope s_law_lines) .none kV14 dc14 pm14 an14 cd14 ct14), sl14⟩) (c14 : PySem.W.codeIn K cd14 "_law_lines" = true) (k14 : PySem.W.keepIn K (.ref f14) = true)
    (a15 : PySem.W.nsIn K mainGlobals "_law_fed" = some (some (.ref f15))) (l15 : K.lookup f15 = some ⟨oc15, od15, .func (PySem.W.fnOf "_law_fed" "_law_fed" (defArgs s_law_fed) (defBody s_law_fed) (defScope s_law_fed) .none kV15 dc15 pm15 an15 cd15 ct15), sl15⟩) (c15 : PySem.W.codeIn K cd15 "_law_fed" = true) (k15 : PySem.W.keepIn K (.ref f15) = true)
    (a16 : PySem.W.nsIn K mainGlobals "_law_conditions" = some (some (.ref f16))) (l16 : K.lookup f16 = some ⟨oc16, od16, .func (PySem.W.fnOf "_law_conditions" "_law_conditions" (defArgs s_law_conditions) (defBody s_law_conditions) (defScope s_law_conditions) .none kV16 dc16 pm16 an16 cd16 ct16), sl16⟩) (c16 : PySem.W.codeIn K cd16 "_law_conditions" = true) (k16 : PySem.W.keepIn K (.ref f16) = true)
    (a17 : PySem.W.nsIn K mainGlobals "law" = some (some (.ref f17))) (l17 : K.lookup f17 = some ⟨oc17, od17, .func (PySem.W.fnOf "law" "law" (defArgs s_law) (defBody s_law) (defScope s_law) .none kV17 dc17 pm17 an17 cd17 ct17), sl17⟩) (c17 : PySem.W.codeIn K cd17 "law" = true) (k17 : PySem.W.keepIn K (.ref f17) = true)
    (z_abs : PySem.W.nsIn K mainGlobals "abs" = some none)
    (z_any : PySem.W.nsIn K mainGlobals "any" = some none)
    (z_enumerate : PySem.W.nsIn K mainGlobals "enumerate" = some none)
    (z_int : PySem.W.nsIn K mainGlobals "int" = some none)
    (z_isinstance : PySem.W.nsIn K mainGlobals "isinstance" = some none)
    (z_len : PySem.W.nsIn K mainGlobals "len" = some none)
    (z_list : PySem.W.nsIn K mainGlobals "list" = some none)
    (z_max : PySem.W.nsIn K mainGlobals "max" = some none)
    (z_min : PySem.W.nsIn K mainGlobals "min" = some none)
    (z_range : PySem.W.nsIn K mainGlobals "range" = some none)
    (z_repr : PySem.W.nsIn K mainGlobals "repr" = some none)
    (z_sorted : PySem.W.nsIn K mainGlobals "sorted" = some none)
    (z_sum : PySem.W.nsIn K mainGlobals "sum" = some none)
    (z_tuple : PySem.W.nsIn K mainGlobals "tuple" = some none)
    (z_zip : PySem.W.nsIn K mainGlobals "zip" = some none) :
    ∃ fd : FuncData, (∀ (s : Shared) (v : Value), BindsTo s fd ⟨[v], []⟩ [("_law_script", v)]) ∧ ∀ base : Heap, K.In base → base.Ns mainGlobals mg → FnG l.prog w K mg base 6 fa fd ["_law_script"] (spLaw K) := by
  have hnob : ∀ x ∈ (["abs", "any", "enumerate", "int", "isinstance", "len", "list", "max", "min", "range", "repr", "sorted", "sum", "tuple", "zip"] : List Str), mg x = none := by
    intro x hx
    simp only [List.mem_cons, List.not_mem_nil, or_false] at hx
    rcases hx with rfl | rfl | rfl | rfl | rfl | rfl | rfl | rfl | rfl | rfl | rfl | rfl | rfl | rfl | rfl
    · exact PySem.W.mg_none_of X G z_abs
    · exact PySem.W.mg_none_of X G z_any
    · exact PySem.W.mg_none_of X G z_enumerate
    · exact PySem.W.mg_none_of X G z_int
    · exact PySem.W.mg_none_of X G z_isinstance
    · exact PySem.W.mg_none_of X G z_len
    · exact PySem.W.mg_none_of X G z_list
    · exact PySem.W.mg_none_of X G z_max
    · exact PySem.W.mg_none_of X G z_min
    · exact PySem.W.mg_none_of X G z_range
    · exact PySem.W.mg_none_of X G z_repr
    · exact PySem.W.mg_none_of X G z_sorted
    · exact PySem.W.mg_none_of X G z_sum
    · exact PySem.W.mg_none_of X G z_tuple
    · exact PySem.W.mg_none_of X G z_zip
  have cls_Island : Cls K C_Island := ⟨q2_Island, q3_Island, q4_Island, q5_Island⟩
  have d6 : Dn K mg "conditions_of" "conditions_of" s_conditions_of ["net", "state", "island"] := dn_mk (PySem.W.mg_of X G a6) l6 c6 k6 fun _ _ _ _ _ _ us hl => match us, hl with | [_, _, _], _ => rfl
  have d7 : Dn K mg "_law_cell" "_law_cell" s_law_cell ["_law_script", "_law_k"] := dn_mk (PySem.W.mg_of X G a7) l7 c7 k7 fun _ _ _ _ _ _ us hl => match us, hl with | [_, _], _ => rfl
  have d8 : Dn K mg "_law_draws" "_law_draws" s_law_draws ["_law_cell_here", "_law_limits"] := dn_mk (PySem.W.mg_of X G a8) l8 c8 k8 fun _ _ _ _ _ _ us hl => match us, hl with | [_, _], _ => rfl
  have d9 : Dn K mg "_law_net" "_law_net" s_law_net ["_law_cell_here", "_law_more", "_law_most"] := dn_mk (PySem.W.mg_of X G a9) l9 c9 k9 fun _ _ _ _ _ _ us hl => match us, hl with | [_, _, _], _ => rfl
  have d10 : Dn K mg "_law_some" "_law_some" s_law_some ["_law_cell_here", "_law_count", "_law_often"] := dn_mk (PySem.W.mg_of X G a10) l10 c10 k10 fun _ _ _ _ _ _ us hl => match us, hl with | [_, _, _], _ => rfl
  have d11 : Dn K mg "_law_state" "_law_state" s_law_state ["_law_cell_here", "_law_net_here"] := dn_mk (PySem.W.mg_of X G a11) l11 c11 k11 fun _ _ _ _ _ _ us hl => match us, hl with | [_, _], _ => rfl
  have d12 : Dn K mg "_law_islands" "_law_islands" s_law_islands ["_law_net_here", "_law_state_here"] := dn_mk (PySem.W.mg_of X G a12) l12 c12 k12 fun _ _ _ _ _ _ us hl => match us, hl with | [_, _], _ => rfl
  have d13 : Dn K mg "_law_stations" "_law_stations" s_law_stations ["_law_net_here", "_law_state_here", "_law_island"] := dn_mk (PySem.W.mg_of X G a13) l13 c13 k13 fun _ _ _ _ _ _ us hl => match us, hl with | [_, _, _], _ => rfl
  have d14 : Dn K mg "_law_lines" "_law_lines" s_law_lines ["_law_net_here", "_law_state_here", "_law_island"] := dn_mk (PySem.W.mg_of X G a14) l14 c14 k14 fun _ _ _ _ _ _ us hl => match us, hl with | [_, _, _], _ => rfl
  have d15 : Dn K mg "_law_fed" "_law_fed" s_law_fed ["_law_net_here", "_law_state_here", "_law_node"] := dn_mk (PySem.W.mg_of X G a15) l15 c15 k15 fun _ _ _ _ _ _ us hl => match us, hl with | [_, _, _], _ => rfl
  have d16 : Dn K mg "_law_conditions" "_law_conditions" s_law_conditions ["_law_net_here", "_law_state_here", "_law_island"] := dn_mk (PySem.W.mg_of X G a16) l16 c16 k16 fun _ _ _ _ _ _ us hl => match us, hl with | [_, _, _], _ => rfl
  have d17 : Dn K mg "law" "law" s_law ["_law_script"] := dn_mk (PySem.W.mg_of X G a17) l17 c17 k17 fun _ _ _ _ _ _ us hl => match us, hl with | [_], _ => rfl

  let W : Vp := ⟨⟨fun x => if x = "Island" then some C_Island else none, none⟩, fun n => [0, 0, 0, 0, 0, 0, 0].getD n 0⟩
  have w_Island : W.rc.cl "Island" = some C_Island := by
    show (if ("Island" : Str) = "Island" then some C_Island else none) = some C_Island
    rw [if_pos rfl]
  have na_Island : ∀ f ∈ ns_Island, NoAttr K C_Island f := by
    intro f hf
    simp only [List.mem_cons, List.not_mem_nil, or_false] at hf
    rcases hf with rfl | rfl | rfl | rfl | rfl
    · exact n_Island_nodes
    · exact n_Island_stations
    · exact n_Island_lines
    · exact n_Island_loads
    · exact n_Island_count
  have d0 : Ini K mg W "Island" "Island.__init__" s_Island_init ["self", "net", "state", "island"] := ⟨_, _, _, w_Island, PySem.W.mg_of X G q1_Island, ⟨q6_Island, a0, i0, q7_Island⟩, (fun_mk (st := s_Island_init) l0 c0 k0), ((fun_mk (st := s_Island_init) l0 c0 k0).binds (ps := ["self", "net", "state", "island"]) fun _ _ _ _ _ _ us hl => match us, hl with | [_, _, _, _], _ => rfl)⟩
  have d1 : Mth K W "Island" "blank" "Island.blank" s_Island_blank ["self"] := ⟨_, _, _, w_Island, cls_Island, ⟨a1, i1, k1⟩, (fun_mk (st := s_Island_blank) l1 c1 k1), ((fun_mk (st := s_Island_blank) l1 c1 k1).binds (ps := ["self"]) fun _ _ _ _ _ _ us hl => match us, hl with | [_], _ => rfl)⟩
  have d2 : Mth K W "Island" "add_potential" "Island.add_potential" s_Island_add_potential ["self", "condition", "node", "factor"] := ⟨_, _, _, w_Island, cls_Island, ⟨a2, i2, k2⟩, (fun_mk (st := s_Island_add_potential) l2 c2 k2), ((fun_mk (st := s_Island_add_potential) l2 c2 k2).binds (ps := ["self", "condition", "node", "factor"]) fun _ _ _ _ _ _ us hl => match us, hl with | [_, _, _, _], _ => rfl)⟩
  have d3 : Mth K W "Island" "flow" "Island.flow" s_Island_flow ["self", "line"] := ⟨_, _, _, w_Island, cls_Island, ⟨a3, i3, k3⟩, (fun_mk (st := s_Island_flow) l3 c3 k3), ((fun_mk (st := s_Island_flow) l3 c3 k3).binds (ps := ["self", "line"]) fun _ _ _ _ _ _ us hl => match us, hl with | [_, _], _ => rfl)⟩
  have d4 : Mth K W "Island" "excess" "Island.excess" s_Island_excess ["self", "node"] := ⟨_, _, _, w_Island, cls_Island, ⟨a4, i4, k4⟩, (fun_mk (st := s_Island_excess) l4 c4 k4), ((fun_mk (st := s_Island_excess) l4 c4 k4).binds (ps := ["self", "node"]) fun _ _ _ _ _ _ us hl => match us, hl with | [_, _], _ => rfl)⟩
  have d5 : Mth K W "Island" "conditions" "Island.conditions" s_Island_conditions ["self"] := ⟨_, _, _, w_Island, cls_Island, ⟨a5, i5, k5⟩, (fun_mk (st := s_Island_conditions) l5 c5 k5), ((fun_mk (st := s_Island_conditions) l5 c5 k5).binds (ps := ["self"]) fun _ _ _ _ _ _ us hl => match us, hl with | [_], _ => rfl)⟩
  have B : Bs K mg W := {
    nob := hnob
    cl_Island := ⟨C_Island, w_Island, cls_Island, na_Island⟩ }
  have e := hfa.symm.trans (PySem.W.mg_of X G a17)
  cases e
  refine ⟨PySem.W.fnOf "law" "law" (defArgs s_law) (defBody s_law) (defScope s_law) .none kV17 dc17 pm17 an17 cd17 ct17, fun s v => .of_eq rfl, fun base _ _ => ?_⟩
  have c_Island_init := ok_Island_init (P := l.prog) (w := w) (mg := mg) (base := base) B rfl d0
  have c_Island_blank := ok_Island_blank (P := l.prog) (w := w) (mg := mg) (base := base) B rfl d1
  have c_Island_add_potential := ok_Island_add_potential (P := l.prog) (w := w) (mg := mg) (base := base) B rfl d2
  have c_Island_flow := ok_Island_flow (P := l.prog) (w := w) (mg := mg) (base := base) B rfl d3 c_Island_blank c_Island_add_potential
  have c_Island_excess := ok_Island_excess (P := l.prog) (w := w) (mg := mg) (base := base) B rfl d4 c_Island_blank c_Island_flow
  have c_Island_conditions := ok_Island_conditions (P := l.prog) (w := w) (mg := mg) (base := base) B rfl d5 c_Island_blank c_Island_flow c_Island_excess
  have c_conditions_of := ok_conditions_of (P := l.prog) (w := w) (mg := mg) (base := base) B rfl d6 c_Island_init c_Island_conditions
  have c_law_cell := ok_law_cell (P := l.prog) (w := w) (mg := mg) (base := base) B rfl d7
  have c_law_draws := ok_law_draws (P := l.prog) (w := w) (mg := mg) (base := base) B rfl d8
  have c_law_net := ok_law_net (P := l.prog) (w := w) (mg := mg) (base := base) B rfl d9 c_law_draws
  have c_law_some := ok_law_some (P := l.prog) (w := w) (mg := mg) (base := base) B rfl d10 c_law_draws
  have c_law_state := ok_law_state (P := l.prog) (w := w) (mg := mg) (base := base) B rfl d11 c_law_draws c_law_some
  have c_law_islands := ok_law_islands (P := l.prog) (w := w) (mg := mg) (base := base) B rfl d12
  have c_law_stations := ok_law_stations (P := l.prog) (w := w) (mg := mg) (base := base) B rfl d13
  have c_law_lines := ok_law_lines (P := l.prog) (w := w) (mg := mg) (base := base) B rfl d14
  have c_law_fed := ok_law_fed (P := l.prog) (w := w) (mg := mg) (base := base) B rfl d15
  have c_law_conditions := ok_law_conditions (P := l.prog) (w := w) (mg := mg) (base := base) B rfl d16 c_law_stations c_law_lines c_law_fed
  have r_law := ok_law (P := l.prog) (w := w) (base := base) (mg := mg) B rfl (fun_mk (st := s_law) l17 c17 k17) c_conditions_of c_law_cell c_law_net c_law_state c_law_islands c_law_conditions
  exact law_end r_law fun ns hl => plain ns hl
theorem walk {l : PySem.W.OpenLaw} {q : Program} {loose : List Str} {XP : (Str → Option Value) → Heap → Prop} {YP : World → Heap → Prop} {d : DefRec} {K : Params → PySem.W.Frag} (hn : l.most = some 63) (hdf : d.params.defaults = []) (hY : ∀ (w : World) (h : Heap), YP w h → (K w.params).In h)
    (F : ∀ (w : World) (mg : Str → Option Value) (fa : Addr) (h : Heap), (K w.params).In h → h.Ns mainGlobals mg → mg d.name = some (.ref fa) →
      ∃ fd : FuncData, (∀ (s : Shared) (u : Value), BindsTo s fd ⟨[u], []⟩ [("_law_script", u)]) ∧ ∀ base : Heap, (K w.params).In base → base.Ns mainGlobals mg → FnG l.prog w (K w.params) mg base 6 fa fd ["_law_script"] (spLaw (K w.params))) :
    PySem.W.WalkO q loose XP YP l.row.toRowW d [] (fun f vs => PySem.call f vs) :=
  walkG hn hdf ⟨rfl, by decide, by decide⟩ hY F fun _ _ a ns hl hs => ⟨a, ns, rfl, hs, hl, fun _ => rfl⟩
end Lw
open PySem PySem.W PyProof.Rows
set_option maxRecDepth 100000 in
set_option maxHeartbeats 0 in
theorem PySem.Challenge.cw_relume_k04_conditions_of_islands_holds : PySem.Challenge.rw_relume_k04_conditions_of_islands.Holds := by
  w_on; o_law; k_head; (case hw => w_witness2)
  k_fill
  refine Lw.walk (l := PySem.Challenge.rw_relume_k04_conditions_of_islands) rfl rfl (fun w h Y => PySem.W.kIn_of Y) ?F
  case F =>
    intro w mg fa h KX G hmg
    refine' Lw.all_mk KX G hmg ?q1_Island ?q2_Island ?q3_Island ?q4_Island ?q5_Island ?q6_Island ?q7_Island ?n_Island_nodes ?n_Island_stations ?n_Island_lines ?n_Island_loads ?n_Island_count ?a0 ?i0 ?l0 ?c0 ?k0 ?a1 ?i1 ?l1 ?c1 ?k1 ?a2 ?i2 ?l2 ?c2 ?k2 ?a3 ?i3 ?l3 ?c3 ?k3 ?a4 ?i4 ?l4 ?c4 ?k4 ?a5 ?i5 ?l5 ?c5 ?k5 ?a6 ?l6 ?c6 ?k6 ?a7 ?l7 ?c7 ?k7 ?a8 ?l8 ?c8 ?k8 ?a9 ?l9 ?c9 ?k9 ?a10 ?l10 ?c10 ?k10 ?a11 ?l11 ?c11 ?k11 ?a12 ?l12 ?c12 ?k12 ?a13 ?l13 ?c13 ?k13 ?a14 ?l14 ?c14 ?k14 ?a15 ?l15 ?c15 ?k15 ?a16 ?l16 ?c16 ?k16 ?a17 ?l17 ?c17 ?k17 ?z_abs ?z_any ?z_enumerate ?z_int ?z_isinstance ?z_len ?z_list ?z_max ?z_min ?z_range ?z_repr ?z_sorted ?z_sum ?z_tuple ?z_zip
    (case q1_Island => k_is)
    (case q2_Island => k_is)
    (case q3_Island => k_is)
    (case q4_Island => k_is)
    (case q5_Island => k_is)
    (case q6_Island => k_is)
    (case q7_Island => k_is)
    (case n_Island_nodes => k_is)
    (case n_Island_stations => k_is)
    (case n_Island_lines => k_is)
    (case n_Island_loads => k_is)
    (case n_Island_count => k_is)
    (case a0 => k_is)
    (case i0 => k_is)
    (case l0 => k_is)
    (case c0 => k_is)
    (case k0 => k_is)
    (case a1 => k_is)
    (case i1 => k_is)
    (case l1 => k_is)
    (case c1 => k_is)
    (case k1 => k_is)
    (case a2 => k_is)
    (case i2 => k_is)
    (case l2 => k_is)
    (case c2 => k_is)
    (case k2 => k_is)
    (case a3 => k_is)
    (case i3 => k_is)
    (case l3 => k_is)
    (case c3 => k_is)
    (case k3 => k_is)
    (case a4 => k_is)
    (case i4 => k_is)
    (case l4 => k_is)
    (case c4 => k_is)
    (case k4 => k_is)
    (case a5 => k_is)
    (case i5 => k_is)
    (case l5 => k_is)
    (case c5 => k_is)
    (case k5 => k_is)
    (case a6 => k_is)
    (case l6 => k_is)
    (case c6 => k_is)
    (case k6 => k_is)
    (case a7 => k_is)
    (case l7 => k_is)
    (case c7 => k_is)
    (case k7 => k_is)
    (case a8 => k_is)
    (case l8 => k_is)
    (case c8 => k_is)
    (case k8 => k_is)
    (case a9 => k_is)
    (case l9 => k_is)
    (case c9 => k_is)
    (case k9 => k_is)
    (case a10 => k_is)
    (case l10 => k_is)
    (case c10 => k_is)
    (case k10 => k_is)
    (case a11 => k_is)
    (case l11 => k_is)
    (case c11 => k_is)
    (case k11 => k_is)
    (case a12 => k_is)
    (case l12 => k_is)
    (case c12 => k_is)
    (case k12 => k_is)
    (case a13 => k_is)
    (case l13 => k_is)
    (case c13 => k_is)
    (case k13 => k_is)
    (case a14 => k_is)
    (case l14 => k_is)
    (case c14 => k_is)
    (case k14 => k_is)
    (case a15 => k_is)
    (case l15 => k_is)
    (case c15 => k_is)
    (case k15 => k_is)
    (case a16 => k_is)
    (case l16 => k_is)
    (case c16 => k_is)
    (case k16 => k_is)
    (case a17 => k_is)
    (case l17 => k_is)
    (case c17 => k_is)
    (case k17 => k_is)
    (case z_abs => k_is)
    (case z_any => k_is)
    (case z_enumerate => k_is)
    (case z_int => k_is)
    (case z_isinstance => k_is)
    (case z_len => k_is)
    (case z_list => k_is)
    (case z_max => k_is)
    (case z_min => k_is)
    (case z_range => k_is)
    (case z_repr => k_is)
    (case z_sorted => k_is)
    (case z_sum => k_is)
    (case z_tuple => k_is)
    (case z_zip => k_is)
