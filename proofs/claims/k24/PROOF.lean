import PyProof.Rows.All
import Wide.All
import OpenK.AllK
import Wide.FinOn
import HandS.ForMost
import HandS.Deep
import HandS.ForExc
import HandS.Wide
import HandS.IsInst
import HandS.TupAny
import HandS.TupLe
import HandS.Conv
import HandS.SortInts
import HandS.More
import HandS.TupSets
import HandS.SortRule
import HandS.NamedTupSort
import HandS.Strs
import HandS.TupMul
import HandS.Zip
import HandS.Rev
import KE.GoesEnum
import HandS.Iter
import HandS.Style
import HandS.Codes
import HandS.WordsExc
import PyProof.ReprRoads
import PyProof.ReprBulk
import PySem.Challenge.RW_deedseen_k24_whole_things_and_goals
set_option Elab.async false
set_option linter.all false
set_option maxRecDepth 100000
/-! DS0: plain values, the small language and what it comes to (own work). -/
namespace DS
open PySem PySem.Spec PyProof.Rows L2

/-- a value without addresses: data; the law's state; a def; a dict -/
inductive W where
  | d (x : PyData)
  | tok
  | fn (i : Nat)
  | dK (kvs : List (Key × W))
  | dT (kvs : List (List Key × W))

abbrev W.i (n : Int) : W := .d (.int n)
abbrev W.b (c : Bool) : W := .d (.bool c)

/-- an error: the number of its class, its attributes -/
structure Exc where
  cls : Nat
  fs : List (Str × PyData)

/-- a run: an answer, an error, no answer told, a draw below n -/
inductive M (α : Type) where
  | ret (a : α)
  | exc (x : Exc)
  | stuck
  | draw (n : Int) (k : Int → M α)

def M.bind {α β : Type} : M α → (α → M β) → M β
  | .ret a, f => f a
  | .exc x, _ => .exc x
  | .stuck, _ => .stuck
  | .draw n k, f => .draw n fun i => (k i).bind f
/-- errors are not told of -/
def M.nox {α : Type} : M α → M α
  | .ret a => .ret a
  | .exc _ => .stuck
  | .stuck => .stuck
  | .draw n k => .draw n fun i => (k i).nox
/-- what is wanted of every run, N draws having been made -/
def M.wp {α : Type} : M α → Nat → (α → Nat → Prop) → (Exc → Nat → Prop) → Prop
  | .ret a, N, Q, _ => Q a N
  | .exc x, N, _, E => E x N
  | .stuck, _, _, _ => False
  | .draw n k, N, Q, E => 0 < n ∧ N < 2 ^ 40 ∧ ∀ i, 0 ≤ i → i < n → (k i).wp (N + 1) Q E

theorem M.wp_bind {α β : Type} {m : M α} {f : α → M β} {Q : β → Nat → Prop} {E : Exc → Nat → Prop} : ∀ {N : Nat}, (m.bind f).wp N Q E ↔ m.wp N (fun a n => (f a).wp n Q E) E := by
  induction m with
  | ret a => exact Iff.rfl
  | exc x => exact Iff.rfl
  | stuck => exact Iff.rfl
  | draw n k ih =>
    intro N
    show (0 < n ∧ _ ∧ _) ↔ (0 < n ∧ _ ∧ _)
    constructor
    · rintro ⟨h, hN, q⟩; exact ⟨h, hN, fun i a b => (ih i).mp (q i a b)⟩
    · rintro ⟨h, hN, q⟩; exact ⟨h, hN, fun i a b => (ih i).mpr (q i a b)⟩
theorem M.wp_mono {α : Type} {m : M α} {Q Q' : α → Nat → Prop} {E E' : Exc → Nat → Prop} (hq : ∀ a n, Q a n → Q' a n) (he : ∀ x n, E x n → E' x n) : ∀ {N : Nat}, m.wp N Q E → m.wp N Q' E' := by
  induction m with
  | ret a => exact fun h => hq a _ h
  | exc x => exact fun h => he x _ h
  | stuck => exact fun h => h
  | draw n k ih => exact fun h => ⟨h.1, h.2.1, fun i a b => ih i (h.2.2 i a b)⟩
theorem M.wp_nox {α : Type} {m : M α} {Q : α → Nat → Prop} {E : Exc → Nat → Prop} : ∀ {N : Nat}, m.nox.wp N Q E → m.wp N Q (fun _ _ => False) := by
  induction m with
  | ret a => exact fun h => h
  | exc x => exact fun h => h.elim
  | stuck => exact fun h => h.elim
  | draw n k ih => exact fun h => ⟨h.1, h.2.1, fun i a b => ih i (h.2.2 i a b)⟩
@[simp] theorem M.bind_ret {α β : Type} (a : α) (f : α → M β) : (M.ret a).bind f = f a := (rfl)
@[simp] theorem M.bind_stuck {α β : Type} (f : α → M β) : (M.stuck : M α).bind f = .stuck := (rfl)
@[simp] theorem M.bind_exc {α β : Type} (x : Exc) (f : α → M β) : (M.exc x : M α).bind f = .exc x := (rfl)
@[simp] theorem M.nox_ret {α : Type} (a : α) : (M.ret a).nox = .ret a := (rfl)
theorem M.bind_assoc {α β γ : Type} (m : M α) (f : α → M β) (g : β → M γ) : (m.bind f).bind g = m.bind fun a => (f a).bind g := by
  induction m with
  | ret a => rfl
  | exc x => rfl
  | stuck => rfl
  | draw n k ih => show M.draw n _ = M.draw n _; congr 1; funext i; exact ih i

/-! ### the small language -/
mutual
/-- a target -/
inductive Tg where
  | n (i : Nat)
  | t (ts : TgL)
inductive TgL where
  | nil
  | cons (g : Tg) (gs : TgL)
end

inductive Bop | add | sub | mul | fdiv | mod | pow | shl | shr | band
  deriving DecidableEq
inductive Cop | eq | ne | lt | le | gt | ge | isin | notin | iz | inz
  deriving DecidableEq
inductive Ty | int | bool | str | tuple | list
  deriving DecidableEq
/-- built-ins of one argument -/
inductive B1 | len | tuple | list | sorted | sum | int | listRange | tupRange | sortedSet | lenSet
  deriving DecidableEq

mutual
inductive E where
  | v (i : Nat)
  | non
  | bl (b : Bool)
  | int (i : Int)
  | str (s : Str)
  | gl (j : Nat)
  | fn (f : Nat)
  | tup (es : EL)
  | lst (es : EL)
  | dnew
  | bin (op : Bop) (a b : E)
  | neg (a : E)
  | cmp (op : Cop) (a b : E)
  | chain (p q : Cop) (a b c : E)
  | isN (a : E)
  | notN (a : E)
  | bop (conj : Bool) (es : EL)
  | not (a : E)
  | ite (c a b : E)
  | ix (a i : E)
  | sl (a : E) (lo hi : EL)
  | call (f : Nat) (es : EL)
  | callk (f np : Nat) (ks : List Str) (perm : List Nat) (es : EL)
  | callv (i : Nat) (es : EL)
  | b1 (b : B1) (a : E)
  | isi (a : E) (t : Ty)
  | comp (tg : Tg) (it : It) (cs : EL) (elt : E)
inductive EL where
  | nil
  | cons (e : E) (es : EL)
inductive It where
  | of (a : E)
  | rng1 (a : E)
  | rng2 (a b : E)
  | enum (a : E)
  | zip (a b : E)
  | rev (a : E)
end
def EL.len : EL → Nat
  | .nil => 0
  | .cons _ es => es.len + 1

mutual
inductive S where
  | asg (tg : Tg) (e : E)
  | par (is : List Nat) (es : EL)
  | ret (e : E)
  | retN
  | ite (c : E) (a b : SL)
  | forr (tg : Tg) (it : It) (body : SL)
  | whl (c : E) (body : SL)
  | app (i : Nat) (e : E)
  | ext (i : Nat) (e : E)
  | popTo (j i : Nat)
  | put (i : Nat) (k e : E)
  | ex (e : E)
  | brk
  | cnt
  | pas
  | rse
inductive SL where
  | nil
  | cons (s : S) (ss : SL)
end

/-- a name's place: nothing, a value, a list or dict of this def's own that nothing else holds -/
inductive C where
  | no
  | sh (w : W)
  | ow (w : W)
abbrev Env := List C

/-- no longer own -/
def dem1 (r : Env) (i : Nat) : Env := match r[i]? with
  | some (.ow w) => r.set i (.sh w)
  | _ => r
def dem : Env → List Nat → Env
  | r, [] => r
  | r, i :: is => dem (dem1 r i) is

/-! ### values -/
def W.data? : W → Option PyData
  | .d x => some x
  | _ => none
def datas : List W → Option (List PyData)
  | [] => some []
  | w :: ws => match w, datas ws with
    | .d x, some xs => some (x :: xs)
    | _, _ => none
/-- the longest list that is made -/
def cap : Nat := 100000

def opt {α : Type} : Option α → M α
  | some a => .ret a
  | none => .stuck
theorem opt_wp {α : Type} {o : Option α} {N : Nat} {Q : α → Nat → Prop} {E : Exc → Nat → Prop} (h : (opt o).wp N Q E) : ∃ a, o = some a ∧ Q a N := by
  cases o with
  | none => exact h.elim
  | some a => exact ⟨a, rfl, h⟩
@[simp] theorem opt_some {α : Type} (a : α) : opt (some a) = .ret a := (rfl)
@[simp] theorem opt_none {α : Type} : opt (none : Option α) = .stuck := (rfl)
def wBool : W → Option Bool
  | .d (.bool c) => some c
  | _ => none
def wInt : W → Option Int
  | .d (.int i) => some i
  | _ => none

def intDiv (i j : Int) : Option W := if 0 < j ∧ j.natAbs.log2 < 9000 then some (.i (i / j)) else none
def intMod (i j : Int) : Option W := if 0 < j then some (.i (i % j)) else none
def intMul (i j : Int) : Option W := if i.natAbs.log2 + j.natAbs.log2 < 1000000 then some (.i (i * j)) else none
def intPow (i j : Int) : Option W := if 0 ≤ j ∧ j ≤ 1000000 ∧ i.natAbs < 2 ^ 64 then some (.i (i ^ j.toNat)) else none
def intShl (i j : Int) : Option W := if 0 ≤ j ∧ j ≤ 1000000 ∧ i.natAbs < 2 ^ 64 then some (.i (i * 2 ^ j.toNat)) else none

def intShr (i j : Int) : Option W := if 0 ≤ j then some (.i (i / 2 ^ j.toNat)) else none
def intAnd (i j : Int) : Option W := some (.i (Builtin.bitAnd i j))
def addW : W → W → Option W
  | .d (.int i), .d (.int j) => some (.i (i + j))
  | .d (.list xs), .d (.list ys) => if xs.length + ys.length ≤ cap then some (.d (.list (xs ++ ys))) else none
  | .d (.tuple xs), .d (.tuple ys) => if xs.length + ys.length ≤ cap then some (.d (.tuple (xs ++ ys))) else none
  | _, _ => none
/-- an operation of two ints -/
def int2 (f : Int → Int → Option W) : W → W → Option W
  | .d (.int i), .d (.int j) => f i j
  | _, _ => none
/-- products; a tuple, repeated -/
def mulW : W → W → Option W
  | .d (.int i), .d (.int j) => intMul i j
  | .d (.tuple xs), .d (.int n) => if xs ≠ [] ∧ 2 ≤ n ∧ n ≤ 1000 ∧ xs.length ≤ 1000 then some (.d (.tuple (List.replicate n.toNat xs).flatten)) else none
  | _, _ => none
def binW : Bop → W → W → Option W
  | .add => addW
  | .sub => int2 fun i j => some (.i (i - j))
  | .mul => mulW
  | .fdiv => int2 intDiv
  | .mod => int2 intMod
  | .pow => int2 intPow
  | .shl => int2 intShl
  | .shr => int2 intShr
  | .band => int2 intAnd

/-- the key that a value is, in a dict of ints and texts -/
def keyW : W → Option Key
  | .d (.int i) => some (.inl i)
  | .d (.str s) => some (.inr s)
  | _ => none
def keyD : PyData → Option Key
  | .int i => some (.inl i)
  | .str s => some (.inr s)
  | _ => none
def keysD : List PyData → Option (List Key)
  | [] => some []
  | x :: xs => match keyD x, keysD xs with
    | some k, some ks => some (k :: ks)
    | _, _ => none
def keyT : W → Option (List Key)
  | .d (.tuple xs) => keysD xs
  | _ => none
def findV {κ : Type} [DecidableEq κ] (kvs : List (κ × W)) (k : κ) : Option W := (kvs.find? fun p => decide (p.1 = k)).map (·.2)

def isNone : W → Bool
  | .d .none => true
  | _ => false
def eqW (a b : W) : Option Bool := match a, b with
  | .d x, .d y => if SeqAt.shaped x = true ∧ SeqAt.shaped y = true then some (PyData.eqv x y) else none
  | _, _ => none
/-- the ints of data -/
def intsD : List PyData → Option (List Int)
  | [] => some []
  | .int i :: xs => match intsD xs with
    | some is => some (i :: is)
    | none => none
  | _ :: _ => none
/-- the order of two lengths -/
def szB : Cop → Nat → Nat → Bool
  | .lt, a, b => decide (a < b)
  | .le, a, b => decide (a ≤ b)
  | .gt, a, b => decide (b < a)
  | .ge, a, b => decide (b ≤ a)
  | _, _, _ => false
def intB : Cop → Int → Int → Bool
  | .lt, a, b => decide (a < b)
  | .le, a, b => decide (a ≤ b)
  | .gt, a, b => decide (b < a)
  | .ge, a, b => decide (b ≤ a)
  | _, _, _ => false
mutual
/-- the order of data: ints, tuples of such -/
def ordD (op : Cop) : PyData → PyData → Option Bool
  | .int i, .int j => some (intB op i j)
  | .tuple xs, .tuple ys => ordDs op xs ys
  | _, _ => none
def ordDs (op : Cop) : List PyData → List PyData → Option Bool
  | [], ys => some (szB op 0 ys.length)
  | _ :: xs, [] => some (szB op (xs.length + 1) 0)
  | x :: xs, y :: ys => match ordDs op xs ys with
    | none => none
    | some t => if PyData.eqv x y = true then some t else ordD op x y
end
def ordW (op : Cop) (a b : W) : Option Bool := match a, b with
  | .d x, .d y => if SeqAt.shaped x = true ∧ SeqAt.shaped y = true then ordD op x y else none
  | _, _ => none
def inW (a b : W) : Option Bool := match b with
  | .d (.list ds) => match a with
    | .d x => if SeqAt.shaped x = true ∧ SeqAt.shaped (.list ds) = true then some (ds.any fun z => PyData.eqv z x) else none
    | _ => none
  | .d (.tuple ds) => match a with
    | .d x => if SeqAt.shaped x = true ∧ SeqAt.shaped (.tuple ds) = true then some (ds.any fun z => PyData.eqv z x) else none
    | _ => none
  | .dK kvs => match keyW a with
    | some k => some (findV kvs k).isSome
    | none => none
  | _ => none
/-- a truth, by its identity -/
def isW : W → W → Option Bool
  | .d (.bool a), .d (.bool b) => some (decide (a = b))
  | _, _ => none
def cmpW : Cop → W → W → Option Bool
  | .eq, a, b => eqW a b
  | .ne, a, b => (eqW a b).map (! ·)
  | .lt, a, b => ordW .lt a b
  | .le, a, b => ordW .le a b
  | .gt, a, b => ordW .gt a b
  | .ge, a, b => ordW .ge a b
  | .isin, a, b => inW a b
  | .notin, a, b => (inW a b).map (! ·)
  | .iz, a, b => isW a b
  | .inz, a, b => (isW a b).map (! ·)
def ixW (a b : W) : Option W := match a with
  | .d (.list ds) => match b with
    | .d (.int i) => match atI ds i with
      | some x => some (.d x)
      | none => none
    | _ => none
  | .d (.tuple ds) => match b with
    | .d (.int i) => match atI ds i with
      | some x => some (.d x)
      | none => none
    | _ => none
  | .dK kvs => match keyW b with
    | some k => match findV kvs k with
      | some w => some w
      | none => none
    | none => none
  | _ => none
/-- a part's bound -/
def cutD (ds : List PyData) (lo hi : Option Int) : List PyData := (ds.drop (HT.sIx ds.length 0 lo)).take (HT.sIx ds.length ds.length hi - HT.sIx ds.length 0 lo)
def slW (a : W) (lo hi : Option Int) : Option W := match a with
  | .d (.list ds) => some (.d (.list (cutD ds lo hi)))
  | .d (.tuple ds) => some (.d (.tuple (cutD ds lo hi)))
  | _ => none

/-- ints in their order -/
def insI (x : Int) : List Int → List Int
  | [] => [x]
  | y :: ys => if x ≤ y then x :: y :: ys else y :: insI x ys
def sortI : List Int → List Int
  | [] => []
  | x :: xs => insI x (sortI xs)
/-- .. each once -/
def insU (x : Int) : List Int → List Int
  | [] => [x]
  | y :: ys => if x < y then x :: y :: ys else if x = y then y :: ys else y :: insU x ys
def sortU : List Int → List Int
  | [] => []
  | x :: xs => insU x (sortU xs)
/-- tuples of ints -/
def tupsD : List PyData → Option (List (List Int))
  | [] => some []
  | .tuple ds :: xs => match intsD ds, tupsD xs with
    | some is, some r => some (is :: r)
    | _, _ => none
  | _ :: _ => none
/-- tuples of ints in their order -/
def insL (x : List Int) : List (List Int) → List (List Int)
  | [] => [x]
  | y :: ys => if HT.lexLt y x = true then y :: insL x ys else x :: y :: ys
def sortL : List (List Int) → List (List Int)
  | [] => []
  | x :: xs => insL x (sortL xs)
def insLU (x : List Int) : List (List Int) → List (List Int)
  | [] => [x]
  | y :: ys => if HT.lexLt x y = true then x :: y :: ys else if x = y then y :: ys else y :: insLU x ys
def sortLU : List (List Int) → List (List Int)
  | [] => []
  | x :: xs => insLU x (sortLU xs)
def tupI (t : List Int) : PyData := .tuple (t.map .int)
def noNil : List (List Int) → Bool
  | [] => true
  | t :: ts => !t.isEmpty && noNil ts
def sortedD (ds : List PyData) : Option W := match intsD ds with
  | some is => some (.d (.list ((sortI is).map .int)))
  | none => match tupsD ds with
    | some ts => if noNil ts = true ∧ ds.length ≤ cap then some (.d (.list ((sortL ts).map tupI))) else none
    | none => none
def setD (ds : List PyData) : Option W := match intsD ds with
  | some is => if is.length < 64 then some (.d (.list ((sortU is).map .int))) else none
  | none => match tupsD ds with
    | some ts => if noNil ts = true ∧ ts.length < 64 then some (.d (.list ((sortLU ts).map tupI))) else none
    | none => none
/-- of a list's or a tuple's items -/
def seqW (f : List PyData → Option W) : W → Option W
  | .d (.list ds) => f ds
  | .d (.tuple ds) => f ds
  | _ => none
def sortedSetW : W → Option W := seqW setD
def lenSetD (ds : List PyData) : Option W := match intsD ds with
  | some is => if is.length < 64 then some (.i (sortU is).length) else none
  | none => none
def lenSetW : W → Option W := seqW lenSetD
def keysI : List (Key × W) → Option (List Int)
  | [] => some []
  | (.inl i, _) :: r => match keysI r with
    | some is => some (i :: is)
    | none => none
  | _ :: _ => none
def lenW : W → Option W
  | .d (.list ds) => some (.i ds.length)
  | .d (.tuple ds) => some (.i ds.length)
  | .dK kvs => some (.i kvs.length)
  | _ => none
def tupleW : W → Option W
  | .d (.list ds) => some (.d (.tuple ds))
  | .d (.tuple ds) => some (.d (.tuple ds))
  | _ => none
def listW : W → Option W
  | .d (.list ds) => some (.d (.list ds))
  | .d (.tuple ds) => some (.d (.list ds))
  | _ => none
def sumW : W → Option W
  | .d (.list ds) => match intsD ds with
    | some is => some (.i is.sum)
    | none => none
  | _ => none
def sortedW : W → Option W
  | .d (.list ds) => sortedD ds
  | .d (.tuple ds) => if ds.length ≤ cap then sortedD ds else none
  | .dK kvs => match keysI kvs with
    | some is => if is.length < 64 then some (.d (.list ((sortI is).map .int))) else none
    | none => none
  | _ => none
def intW : W → Option W
  | .d (.int i) => some (.i i)
  | _ => none
def rangeW : W → Option W
  | .d (.int n) => if 0 ≤ n ∧ n ≤ cap then some (.d (.list ((List.range n.toNat).map fun (k : Nat) => PyData.int (k : Int)))) else none
  | _ => none
def rangeTW : W → Option W
  | .d (.int n) => if 0 ≤ n ∧ n ≤ cap then some (.d (.tuple ((List.range n.toNat).map fun (k : Nat) => PyData.int (k : Int)))) else none
  | _ => none
def b1W : B1 → W → Option W
  | .len => lenW
  | .tuple => tupleW
  | .list => listW
  | .sum => sumW
  | .sorted => sortedW
  | .int => intW
  | .listRange => rangeW
  | .tupRange => rangeTW
  | .sortedSet => sortedSetW
  | .lenSet => lenSetW
def isiW : W → Ty → Option Bool
  | .d .none, _ => some false
  | .d (.bool _), t => some (t == .bool || t == .int)
  | .d (.int _), t => some (t == .int)
  | .d (.str _), t => some (t == .str)
  | .d (.tuple _), t => some (t == .tuple)
  | .d (.list _), t => some (t == .list)
  | _, _ => none

/-! ### loops -/
inductive Fl where
  | nx | bk | ct
  | rt (w : W)
/-- a comprehension's turns -/
def compM (step : W → M (Option PyData)) : List W → List PyData → M (List PyData)
  | [], acc => .ret acc
  | w :: ws, acc => (step w).bind fun o => match o with
    | some x => compM step ws (acc ++ [x])
    | none => compM step ws acc
def forM {ρ : Type} (step : W → ρ → M (Fl × ρ)) : List W → ρ → M (Fl × ρ)
  | [], r => .ret (.nx, r)
  | w :: ws, r => (step w r).bind fun q => match q.1 with
    | .nx => forM step ws q.2
    | .ct => forM step ws q.2
    | .bk => .ret (.nx, q.2)
    | .rt v => .ret (.rt v, q.2)
def whileM {ρ : Type} (c : ρ → M Bool) (step : ρ → M (Fl × ρ)) : Nat → ρ → M (Fl × ρ)
  | 0, _ => .stuck
  | k + 1, r => (c r).bind fun b => if b = true then (step r).bind fun q => match q.1 with
      | .nx => whileM c step k q.2
      | .ct => whileM c step k q.2
      | .bk => .ret (.nx, q.2)
      | .rt v => .ret (.rt v, q.2)
    else .ret (.nx, r)

/-! ### targets -/
mutual
def asgT : Tg → W → Env → Option Env
  | .n i, w, r => if i < r.length then some (r.set i (.sh w)) else none
  | .t ts, w, r => match w with
    | .d (.tuple xs) => asgTs ts xs r
    | _ => none
def asgTs : TgL → List PyData → Env → Option Env
  | .nil, xs, r => match xs with
    | [] => some r
    | _ => none
  | .cons g gs, xs, r => match xs with
    | x :: xs => match asgT g (.d x) r with
      | some r1 => asgTs gs xs r1
      | none => none
    | [] => none
end
mutual
def Tg.is : Tg → List Nat
  | .n i => [i]
  | .t ts => ts.is
def TgL.is : TgL → List Nat
  | .nil => []
  | .cons g gs => g.is ++ gs.is
end
/-- names forgotten -/
def wipeE (r : Env) : List Nat → Env
  | [] => r
  | i :: is => (wipeE r is).set i .no

/-! ### what is told of a list that is walked -/
def itOf : W → Option (List W)
  | .d (.list ds) => some (ds.map .d)
  | .d (.tuple ds) => some (ds.map .d)
  | _ => none
def itRng (a b : Int) : Option (List W) := if -(2 ^ 62) ≤ a ∧ a < 2 ^ 62 ∧ -(2 ^ 62) ≤ b ∧ b < 2 ^ 62 then some ((List.range (b - a).toNat).map fun (k : Nat) => W.i (a + (k : Int))) else none
def enumD (ds : List PyData) : List W := ds.zipIdx.map fun p => W.d (.tuple [.int (p.2 : Nat), p.1])
def itEnum : W → Option (List W)
  | .d (.list ds) => some (enumD ds)
  | .d (.tuple ds) => some (enumD ds)
  | _ => none
def itZip : W → W → Option (List W)
  | .d (.list ds), .d (.list es) => some ((ds.zip es).map fun p => W.d (.tuple [p.1, p.2]))
  | .d (.tuple ds), .d (.tuple es) => some ((ds.zip es).map fun p => W.d (.tuple [p.1, p.2]))
  | _, _ => none
def itRev : W → Option (List W)
  | .d (.list ds) => some (ds.reverse.map .d)
  | .d (.tuple ds) => some (ds.reverse.map .d)
  | _ => none

/-! ### expressions -/
abbrev Fns := List (List W → M W)
def getN (r : Env) (bw : Bool) (i : Nat) : M W := match r[i]? with
  | some (.sh w) => .ret w
  | some (.ow w) => if bw = true then .ret w else .stuck
  | _ => .stuck
def applyF (fs : Fns) (f : Nat) (ws : List W) : M W := match fs[f]? with
  | some F => F ws
  | none => .stuck
/-- a def that is held by a name -/
def callW (fs : Fns) (g : W) (k : Nat → M W) : M W := match g with
  | .fn f => if f < fs.length then k f else .stuck
  | _ => .stuck
theorem callW_wp {fs : Fns} {g : W} {k : Nat → M W} {N : Nat} {Q : W → Nat → Prop} {E : Exc → Nat → Prop} (h : (callW fs g k).wp N Q E) : ∃ f, g = .fn f ∧ f < fs.length ∧ (k f).wp N Q E := by
  unfold callW at h
  split at h
  · split at h
    · exact ⟨_, rfl, by assumption, h⟩
    · exact h.elim
  · exact h.elim
def permW (ws : List W) : List Nat → Option (List W)
  | [] => some []
  | i :: is => match ws[i]?, permW ws is with
    | some w, some r => some (w :: r)
    | _, _ => none
/-- what a comprehension walks: a list that a name owns stays its own -/
def itB (r : Env) (k : M (List W)) : It → M (List W)
  | .of (.v i) => (getN r true i).bind fun x => opt (itOf x)
  | _ => k
def escB (k : List Nat) : It → List Nat
  | .of (.v _) => []
  | _ => k
mutual
def evE (fs : Fns) (gs : List W) (r : Env) (bw : Bool) : E → M W
  | .v i => getN r bw i
  | .non => .ret (.d .none)
  | .bl b => .ret (.b b)
  | .int i => .ret (.i i)
  | .str s => .ret (.d (.str s))
  | .gl j => match gs[j]? with
    | some w => .ret w
    | none => .stuck
  | .fn f => .ret (.fn f)
  | .tup es => (evL fs gs r es).bind fun ws => match datas ws with
    | some ds => .ret (.d (.tuple ds))
    | none => .stuck
  | .lst es => (evL fs gs r es).bind fun ws => match datas ws with
    | some ds => .ret (.d (.list ds))
    | none => .stuck
  | .dnew => .ret (.dK [])
  | .bin op a b => (evE fs gs r true a).bind fun x => (evE fs gs r true b).bind fun y => opt (binW op x y)
  | .neg a => (evE fs gs r false a).bind fun x => (opt (wInt x)).bind fun i => .ret (.i (-i))
  | .cmp op a b => (evE fs gs r true a).bind fun x => (evE fs gs r true b).bind fun y => (opt (cmpW op x y)).bind fun c => .ret (.b c)
  | .chain p q a b c => (evE fs gs r false a).bind fun x => (evE fs gs r false b).bind fun y => (opt (cmpW p x y)).bind fun k =>
      if k = true then (evE fs gs r false c).bind fun z => (opt (cmpW q y z)).bind fun k2 => .ret (.b k2) else .ret (.b false)
  | .isN a => (evE fs gs r false a).bind fun x => .ret (.b (isNone x))
  | .notN a => (evE fs gs r false a).bind fun x => .ret (.b (!isNone x))
  | .bop conj es => evB fs gs r conj es
  | .not a => (evE fs gs r false a).bind fun x => (opt (wBool x)).bind fun c => .ret (.b (!c))
  | .ite c a b => (evE fs gs r false c).bind fun x => (opt (wBool x)).bind fun k => if k = true then evE fs gs r false a else evE fs gs r false b
  | .ix a i => (evE fs gs r true a).bind fun x => (evE fs gs r false i).bind fun y => opt (ixW x y)
  | .sl a lo hi => (evE fs gs r true a).bind fun x => (evO fs gs r lo).bind fun l => (evO fs gs r hi).bind fun h => opt (slW x l h)
  | .call f es => (evL fs gs r es).bind fun ws => applyF fs f ws
  | .callk f _ _ perm es => (evL fs gs r es).bind fun ws => match permW ws perm with
    | some vs => applyF fs f vs
    | none => .stuck
  | .callv i es => (getN r false i).bind fun g => callW fs g fun f => (evL fs gs r es).bind fun ws => applyF fs f ws
  | .b1 b a => (evE fs gs r true a).bind fun x => opt (b1W b x)
  | .isi a t => (evE fs gs r true a).bind fun x => (opt (isiW x t)).bind fun c => .ret (.b c)
  | .comp tg it cs elt => (itB r (evI fs gs r it) it).bind fun ws => if ws.length ≤ cap then
      (compM (fun w => match asgT tg w (wipeE r tg.is) with
        | some r1 => (evC fs gs r1 cs).bind fun c => if c = true then (evE fs gs r1 false elt).bind fun y => (opt y.data?).bind fun x => .ret (some x) else .ret none
        | none => .stuck) ws []).nox.bind fun ds => .ret (.d (.list ds)) else .stuck
def evL (fs : Fns) (gs : List W) (r : Env) : EL → M (List W)
  | .nil => .ret []
  | .cons e es => (evE fs gs r false e).bind fun w => (evL fs gs r es).bind fun ws => .ret (w :: ws)
/-- and, or -/
def evB (fs : Fns) (gs : List W) (r : Env) (conj : Bool) : EL → M W
  | .nil => .stuck
  | .cons e es => match es with
    | .nil => evE fs gs r false e
    | .cons e2 es2 => (evE fs gs r false e).bind fun x => (opt (wBool x)).bind fun c => if c = conj then evB fs gs r conj (.cons e2 es2) else .ret (.b (!conj))
/-- a bound of a part -/
def evO (fs : Fns) (gs : List W) (r : Env) : EL → M (Option Int)
  | .nil => .ret none
  | .cons e _ => (evE fs gs r false e).bind fun x => (opt (wInt x)).bind fun i => .ret (some i)
/-- the tests of a comprehension -/
def evC (fs : Fns) (gs : List W) (r : Env) : EL → M Bool
  | .nil => .ret true
  | .cons e _ => (evE fs gs r false e).bind fun x => opt (wBool x)
def evI (fs : Fns) (gs : List W) (r : Env) : It → M (List W)
  | .of a => (evE fs gs r false a).bind fun x => opt (itOf x)
  | .rng1 a => (evE fs gs r false a).bind fun x => (opt (wInt x)).bind fun j => opt (itRng 0 j)
  | .rng2 a b => (evE fs gs r false a).bind fun x => (evE fs gs r false b).bind fun y => (opt (wInt x)).bind fun i => (opt (wInt y)).bind fun j => opt (itRng i j)
  | .enum a => (evE fs gs r false a).bind fun x => opt (itEnum x)
  | .zip a b => (evE fs gs r false a).bind fun x => (evE fs gs r false b).bind fun y => opt (itZip x y)
  | .rev a => (evE fs gs r false a).bind fun x => opt (itRev x)
end

/-! ### which names are handed on -/
mutual
def escE (bw : Bool) : E → List Nat
  | .v i => if bw = true then [] else [i]
  | .non | .bl _ | .int _ | .str _ | .gl _ | .fn _ | .dnew => []
  | .tup es | .lst es | .bop _ es | .call _ es | .callk _ _ _ _ es => escL es
  | .callv i es => i :: escL es
  | .bin _ a b | .cmp _ a b => escE true a ++ escE true b
  | .chain _ _ a b c => escE false a ++ escE false b ++ escE false c
  | .neg a | .isN a | .notN a | .not a => escE false a
  | .ite c a b => escE false c ++ escE false a ++ escE false b
  | .ix a i => escE true a ++ escE false i
  | .sl a lo hi => escE true a ++ escL lo ++ escL hi
  | .b1 _ a | .isi a _ => escE true a
  | .comp _ it cs elt => escB (escI it) it ++ escL cs ++ escE false elt
def escL : EL → List Nat
  | .nil => []
  | .cons e es => escE false e ++ escL es
def escI : It → List Nat
  | .of a | .rng1 a | .enum a | .rev a => escE false a
  | .rng2 a b | .zip a b => escE false a ++ escE false b
end
/-- whether a new list or dict comes of it -/
def fresh : E → Bool
  | .lst _ | .dnew | .comp _ _ _ _ => true
  | .b1 b _ => match b with
    | .list | .sorted | .listRange => true
    | _ => false
  | .bin .add _ _ => true
  | _ => false
def isBox : W → Bool
  | .d (.list _) => true
  | .dK _ => true
  | .dT _ => true
  | _ => false
def asgE (tg : Tg) (e : E) (w : W) (r : Env) : Option Env := match tg with
  | .n i => if i < r.length then some (r.set i (if fresh e && isBox w then .ow w else .sh w)) else none
  | t => asgT t w r
def parE : List Nat → EL → List W → Env → Option Env
  | i :: is, .cons e es, w :: ws, r => match asgE (.n i) e w r with
    | some r1 => parE is es ws r1
    | none => none
  | [], .nil, [], r => some r
  | _, _, _, _ => none

/-! ### stores -/
def appD (ds : List PyData) (x : W) : Option W := match x with
  | .d y => if ds.length < cap then some (.d (.list (ds ++ [y]))) else none
  | _ => none
def extD (ds : List PyData) (x : W) : Option W := match x with
  | .d (.list ys) => if ds.length + ys.length ≤ cap then some (.d (.list (ds ++ ys))) else none
  | _ => none
def putV {κ : Type} [DecidableEq κ] (k : κ) (v : W) (kvs : List (κ × W)) : List (κ × W) :=
  if (kvs.any fun p => decide (p.1 = k)) = true then kvs.map (fun p => if p.1 = k then (p.1, v) else p) else kvs ++ [(k, v)]
def putW (w k x : W) : Option W := match w with
  | .d (.list ds) => match k, x with
    | .d (.int i), .d y => match ixN ds.length i with
      | some j => some (.d (.list (ds.set j y)))
      | none => none
    | _, _ => none
  | .dK kvs => match keyW k with
    | some q => if kvs.length < cap then some (.dK (putV q x kvs)) else none
    | none => none
  | _ => none

/-! ### statements -/
def ownAt (r : Env) (i : Nat) : Option W := match r[i]? with
  | some (.ow w) => some w
  | _ => none
def ownL (r : Env) (i : Nat) : Option (List PyData) := match r[i]? with
  | some (.ow (.d (.list ds))) => some ds
  | _ => none
mutual
def evS (fs : Fns) (gs : List W) (fu : Nat) : S → Env → M (Fl × Env)
  | .asg tg e, r => (evE fs gs (dem r (escE false e)) false e).bind fun w => (opt (asgE tg e w (dem r (escE false e)))).bind fun r1 => .ret (.nx, r1)
  | .par is es, r => (evL fs gs (dem r (escL es)) es).bind fun ws => (opt (parE is es ws (dem r (escL es)))).bind fun r1 => .ret (.nx, r1)
  | .ret e, r => (evE fs gs (dem r (escE false e)) false e).bind fun w => .ret (.rt w, dem r (escE false e))
  | .retN, r => .ret (.rt (.d .none), r)
  | .ite c a b, r => (evE fs gs (dem r (escE false c)) false c).bind fun x => (opt (wBool x)).bind fun k => if k = true then evSL fs gs fu a (dem r (escE false c)) else evSL fs gs fu b (dem r (escE false c))
  | .forr tg it body, r => (evI fs gs (dem r (escI it)) it).bind fun ws =>
      forM (fun w r1 => (opt (asgT tg w r1)).bind fun r2 => evSL fs gs fu body r2) ws (dem r (escI it))
  | .whl c body, r => whileM (fun r1 => if (escE false c).all (fun i => (ownAt r1 i).isNone) then (evE fs gs r1 false c).bind (fun x => opt (wBool x)) else .stuck) (fun r1 => evSL fs gs fu body r1) fu r
  | .app i e, r => match ownL (dem r (escE false e)) i with
    | some ds => (evE fs gs (dem r (escE false e)) false e).bind fun x => (opt (appD ds x)).bind fun w2 => .ret (.nx, (dem r (escE false e)).set i (.ow w2))
    | none => .stuck
  | .ext i e, r => match ownL (dem r (escE false e)) i with
    | some ds => (evE fs gs (dem r (escE false e)) false e).bind fun x => (opt (extD ds x)).bind fun w2 => .ret (.nx, (dem r (escE false e)).set i (.ow w2))
    | none => .stuck
  | .popTo j i, r => match ownL r i with
    | some ds => match ds.getLast? with
      | some x => if j < r.length then .ret (.nx, (r.set i (.ow (.d (.list ds.dropLast)))).set j (.sh (.d x))) else .stuck
      | none => .stuck
    | none => .stuck
  | .put i k e, r => (evE fs gs (dem r (escE false k ++ escE false e)) false e).bind fun x => match ownAt (dem r (escE false k ++ escE false e)) i with
    | some w => (evE fs gs (dem r (escE false k ++ escE false e)) false k).bind fun y => (opt (putW w y x)).bind fun w2 => .ret (.nx, (dem r (escE false k ++ escE false e)).set i (.ow w2))
    | none => .stuck
  | .ex e, r => (evE fs gs (dem r (escE false e)) false e).bind fun _ => .ret (.nx, dem r (escE false e))
  | .brk, r => .ret (.bk, r)
  | .cnt, r => .ret (.ct, r)
  | .pas, r => .ret (.nx, r)
  | .rse, _ => .stuck
def evSL (fs : Fns) (gs : List W) (fu : Nat) : SL → Env → M (Fl × Env)
  | .nil, r => .ret (.nx, r)
  | .cons s ss, r => (evS fs gs fu s r).bind fun q => match q.1 with
    | .nx => evSL fs gs fu ss q.2
    | f => .ret (f, q.2)
end
def evD (fs : Fns) (gs : List W) (fu n np : Nat) (body : SL) (ws : List W) : M W :=
  if ws.length = np then (evSL fs gs fu body (ws.map .sh ++ List.replicate (n - np) .no)).bind fun q => match q.1 with
    | .rt w => .ret w
    | .nx => .ret (.d .none)
    | _ => .stuck
  else .stuck
end DS

set_option Elab.async false
set_option linter.all false
set_option maxRecDepth 100000
set_option maxHeartbeats 4000000
/-! DS1: how a plain value lies in the heap; what an expression's reading is. -/
namespace DS
open PySem PySem.Spec PyProof.Rows L2

abbrev Frag := PySem.W.Frag

/-! ### heaps -/
def hide (O : List Addr) (H : Hp) : Hp := fun b => if b ∈ O then none else H b
theorem hide_in {O : List Addr} {H : Hp} {b : Addr} (h : b ∈ O) : hide O H b = none := if_pos h
theorem hide_out {O : List Addr} {H : Hp} {b : Addr} (h : b ∉ O) : hide O H b = H b := if_neg h
theorem hide_le {O : List Addr} {H : Hp} : Same (hide O H) H := fun b o e => by
  unfold hide at e
  split at e
  · cases e
  · exact e
theorem hide_some {O : List Addr} {H : Hp} {b : Addr} {o : HO} (e : hide O H b = some o) : b ∉ O ∧ H b = some o := by
  unfold hide at e
  split at e
  · cases e
  · exact ⟨by assumption, e⟩
theorem hide_sub {O O' : List Addr} {H : Hp} (h : ∀ b ∈ O', b ∈ O) : Same (hide O H) (hide O' H) := fun b o e => by
  obtain ⟨h1, h2⟩ := hide_some e
  rw [hide_out fun q => h1 (h b q)]
  exact h2
theorem hide_same {O : List Addr} {H H' : Hp} (h : Same H H') : Same (hide O H) (hide O H') := fun b o e => by
  obtain ⟨h1, h2⟩ := hide_some e
  rw [hide_out h1]
  exact h b o h2
/-- an object of O is changed -/
theorem hide_upd {O : List Addr} {H : Hp} {a : Addr} {o : HO} (h : a ∈ O) : hide O (upd H a o) = hide O H := by
  funext b
  unfold hide
  split
  · rfl
  · exact upd_ne fun e => by subst e; exact absurd h (by assumption)
/-- a new object -/
theorem same_new {H : Hp} {a : Addr} {o : HO} (h : H a = none) : Same H (upd H a o) := fun b u e => by
  rw [upd_ne (ne_of_none e h)]
  exact e
/-- a new object that is hidden -/
theorem hide_new {O : List Addr} {H : Hp} {a : Addr} {o : HO} (h : H a = none) : Same (hide O H) (hide (a :: O) (upd H a o)) := fun b u e => by
  obtain ⟨h1, h2⟩ := hide_some e
  have n : b ≠ a := ne_of_none h2 h
  rw [hide_out (by simp [n, h1]), upd_ne n]
  exact h2

/-! ### data in a heap -/
mutual
inductive RD (K : Frag) (G : Hp) : V → PyData → Prop
  | non : RD K G .non .none
  | bl (b : Bool) : RD K G (.bl b) (.bool b)
  | int (i : Int) : RD K G (.int i) (.int i)
  | str (x : Str) : RD K G (.str x) (.str x)
  | lst {a : Addr} {xs : List V} {ds : List PyData} : G a = some (.lst xs) → RDs K G xs ds → RD K G (.ref a) (.list ds)
  | tup {a : Addr} {xs : List V} {ds : List PyData} : SqT K G a xs → RDs K G xs ds → RD K G (.ref a) (.tuple ds)
inductive RDs (K : Frag) (G : Hp) : List V → List PyData → Prop
  | nil : RDs K G [] []
  | cons {v : V} {vs : List V} {d : PyData} {ds : List PyData} : RD K G v d → RDs K G vs ds → RDs K G (v :: vs) (d :: ds)
end
theorem sqT_same {K : Frag} {H H' : Hp} {a : Addr} {xs : List V} (e : Same H H') (h : SqT K H a xs) : SqT K H' a xs := by
  rcases h with (h | ⟨o, h⟩) | h
  · exact .inl (.inl (e _ _ h))
  · exact .inl (.inr ⟨o, e _ _ h⟩)
  · exact .inr h
mutual
theorem RD.mono {K : Frag} {G G' : Hp} (e : Same G G') : ∀ (d : PyData) (v : V), RD K G v d → RD K G' v d
  | .none, _, h => by cases h; exact .non
  | .bool b, _, h => by cases h; exact .bl b
  | .int b, _, h => by cases h; exact .int b
  | .str b, _, h => by cases h; exact .str b
  | .list ds, _, h => by
    cases h with
    | lst h1 h2 => exact .lst (e _ _ h1) (RDs.mono e ds _ h2)
  | .tuple ds, _, h => by
    cases h with
    | tup h1 h2 => exact .tup (sqT_same e h1) (RDs.mono e ds _ h2)
  | .dict _, _, h => by cases h
theorem RDs.mono {K : Frag} {G G' : Hp} (e : Same G G') : ∀ (ds : List PyData) (vs : List V), RDs K G vs ds → RDs K G' vs ds
  | [], _, h => by cases h; exact .nil
  | d :: ds, _, h => by
    cases h with
    | cons h1 h2 => exact .cons (RD.mono e d _ h1) (RDs.mono e ds _ h2)
end
mutual
theorem RD.dp {K : Frag} {G : Hp} : ∀ (d : PyData) (v : V), RD K G v d → Dp K G v d
  | .none, _, h => by cases h; exact .non
  | .bool b, _, h => by cases h; exact .bl b
  | .int b, _, h => by cases h; exact .int b
  | .str b, _, h => by cases h; exact .str b
  | .list ds, _, h => by
    cases h with
    | lst h1 h2 => exact .lst (.inl (.inl h1)) (RDs.dp ds _ h2)
  | .tuple ds, _, h => by
    cases h with
    | tup h1 h2 => exact .tup h1 (RDs.dp ds _ h2)
  | .dict _, _, h => by cases h
theorem RDs.dp {K : Frag} {G : Hp} : ∀ (ds : List PyData) (vs : List V), RDs K G vs ds → DpAll K G vs ds
  | [], _, h => by cases h; exact .nil
  | d :: ds, _, h => by
    cases h with
    | cons h1 h2 => exact .cons (RD.dp d _ h1) (RDs.dp ds _ h2)
end
theorem RDs.len {K : Frag} {G : Hp} : ∀ {vs : List V} {ds : List PyData}, RDs K G vs ds → vs.length = ds.length
  | _, _, .nil => rfl
  | _, _, .cons _ t => congrArg (· + 1) t.len
theorem RDs.append {K : Frag} {G : Hp} : ∀ {vs vs' : List V} {ds ds' : List PyData}, RDs K G vs ds → RDs K G vs' ds' → RDs K G (vs ++ vs') (ds ++ ds')
  | _, _, _, _, .nil, q => q
  | _, _, _, _, .cons a t, q => .cons a (t.append q)
theorem RDs.get {K : Frag} {G : Hp} : ∀ {vs : List V} {ds : List PyData} {i : Nat} {d : PyData}, RDs K G vs ds → ds[i]? = some d → ∃ v, vs[i]? = some v ∧ RD K G v d
  | _, _, _, _, .nil, e => by simp at e
  | _, _, 0, _, .cons a _, e => by simp at e; subst e; exact ⟨_, rfl, a⟩
  | _, _, i + 1, _, .cons _ t, e => by
    obtain ⟨v, h1, h2⟩ := t.get (i := i) (by simpa using e)
    exact ⟨v, by simpa using h1, h2⟩
theorem RDs.get' {K : Frag} {G : Hp} : ∀ {vs : List V} {ds : List PyData} {i : Nat} {v : V}, RDs K G vs ds → vs[i]? = some v → ∃ d, ds[i]? = some d ∧ RD K G v d
  | _, _, _, _, .nil, e => by simp at e
  | _, _, 0, _, .cons a _, e => by simp at e; subst e; exact ⟨_, rfl, a⟩
  | _, _, i + 1, _, .cons _ t, e => by
    obtain ⟨v, h1, h2⟩ := t.get' (i := i) (by simpa using e)
    exact ⟨v, by simpa using h1, h2⟩
theorem RDs.take {K : Frag} {G : Hp} : ∀ {vs : List V} {ds : List PyData} (n : Nat), RDs K G vs ds → RDs K G (vs.take n) (ds.take n)
  | _, _, 0, _ => .nil
  | _, _, _ + 1, .nil => .nil
  | _, _, n + 1, .cons a t => .cons a (t.take n)
theorem RDs.drop {K : Frag} {G : Hp} : ∀ {vs : List V} {ds : List PyData} (n : Nat), RDs K G vs ds → RDs K G (vs.drop n) (ds.drop n)
  | _, _, 0, h => h
  | _, _, _ + 1, .nil => .nil
  | _, _, n + 1, .cons _ t => t.drop n
theorem RDs.set {K : Frag} {G : Hp} {v : V} {d : PyData} (h : RD K G v d) : ∀ {vs : List V} {ds : List PyData} (n : Nat), RDs K G vs ds → RDs K G (vs.set n v) (ds.set n d)
  | _, _, _, .nil => .nil
  | _, _, 0, .cons _ t => .cons h t
  | _, _, n + 1, .cons a t => .cons a (t.set h n)
theorem RDs.ints {K : Frag} {G : Hp} : ∀ {ds : List PyData} {vs : List V} {is : List Int}, RDs K G vs ds → intsD ds = some is → vs = is.map V.int
  | [], _, _, h, e => by cases h; cases e; rfl
  | d :: ds, _, is, h, e => by
    cases h with
    | cons h1 h2 =>
      cases h1 with
      | int i =>
        unfold intsD at e
        cases q : intsD ds with
        | none => rw [q] at e; cases e
        | some js =>
          rw [q] at e
          cases e
          rw [h2.ints q]
          rfl
      | non => cases e
      | bl _ => cases e
      | str _ => cases e
      | lst _ _ => cases e
      | tup _ _ => cases e
theorem RDs.of_ints {K : Frag} {G : Hp} : ∀ is : List Int, RDs K G (is.map V.int) (is.map PyData.int)
  | [] => .nil
  | i :: is => .cons (.int i) (.of_ints is)

/-! ### the law's state -/
structure StA where
  sa : Addr
  ca : Addr
  la : Addr
def stDict (c : StA) (n : Int) : List (Key × V) := [(Sum.inr "cells", .ref c.ca), (Sum.inr "lefts", .ref c.la), (Sum.inr "at", .int n)]
structure StOk (c : StA) (N : Nat) (H : Hp) : Prop where
  ex : ∃ (cs ls : List Int) (n : Int), H c.sa = some (.dK (stDict c n)) ∧ H c.ca = some (.lst (cs.map V.int)) ∧ H c.la = some (.lst (ls.map V.int)) ∧ cs ≠ [] ∧ ls.length = cs.length ∧ 0 ≤ n ∧ n ≤ N
  ne : c.ca ≠ c.la
theorem StOk.sa {c : StA} {N : Nat} {H : Hp} (s : StOk c N H) : ∃ o, H c.sa = some o := let ⟨_, _, _, h, _⟩ := s.ex; ⟨_, h⟩
theorem StOk.la {c : StA} {N : Nat} {H : Hp} (s : StOk c N H) : ∃ o, H c.la = some o := let ⟨_, _, _, _, _, h, _⟩ := s.ex; ⟨_, h⟩
/-- kept: all that was tracked but the state -/
def Fr (c : StA) (H H' : Hp) : Prop := ∀ b o, b ≠ c.sa → b ≠ c.la → H b = some o → H' b = some o
theorem Fr.refl {c : StA} {H : Hp} : Fr c H H := fun _ _ _ _ h => h
theorem Fr.trans {c : StA} {H H1 H2 : Hp} (a : Fr c H H1) (b : Fr c H1 H2) : Fr c H H2 := fun x o h1 h2 e => b x o h1 h2 (a x o h1 h2 e)
theorem Fr.of {c : StA} {H H' : Hp} (h : Same H H') : Fr c H H' := fun b o _ _ e => h b o e
theorem Fr.hide {c : StA} {H H' : Hp} {O : List Addr} (f : Fr c H H') (h1 : c.sa ∈ O) (h2 : c.la ∈ O) : Same (hide O H) (hide O H') := fun b o e => by
  obtain ⟨hb, e⟩ := hide_some e
  rw [hide_out hb]
  exact f b o (fun q => hb (q ▸ h1)) (fun q => hb (q ▸ h2)) e
theorem StOk.same {c : StA} {N : Nat} {H H' : Hp} (s : StOk c N H) (h : Same H H') : StOk c N H' := by
  obtain ⟨⟨cs, ls, n, h1, h2, h3, r⟩, ne⟩ := s
  exact ⟨⟨cs, ls, n, h _ _ h1, h _ _ h2, h _ _ h3, r⟩, ne⟩
theorem StOk.le {c : StA} {N N' : Nat} {H : Hp} (s : StOk c N H) (h : N ≤ N') : StOk c N' H := by
  obtain ⟨⟨cs, ls, n, h1, h2, h3, h4, h5, h6, h7⟩, ne⟩ := s
  exact ⟨⟨cs, ls, n, h1, h2, h3, h4, h5, h6, by omega⟩, ne⟩

/-! ### values in a heap -/
mutual
inductive RW (K : Frag) (fa : Nat → Addr) (c : StA) (G : Hp) : V → W → Prop
  | d {v : V} {x : PyData} : RD K G v x → RW K fa c G v (.d x)
  | tok : RW K fa c G (.ref c.sa) .tok
  | fn (i : Nat) : RW K fa c G (.ref (fa i)) (.fn i)
  | dK {a : Addr} {kvs : List (Key × V)} {ws : List (Key × W)} : G a = some (.dK kvs) → RK K fa c G kvs ws → RW K fa c G (.ref a) (.dK ws)
  | dT {a : Addr} {kvs : List (List Key × V)} {ws : List (List Key × W)} : G a = some (.dT kvs) → RT K fa c G kvs ws → RW K fa c G (.ref a) (.dT ws)
inductive RK (K : Frag) (fa : Nat → Addr) (c : StA) (G : Hp) : List (Key × V) → List (Key × W) → Prop
  | nil : RK K fa c G [] []
  | cons {k : Key} {v : V} {w : W} {r : List (Key × V)} {s : List (Key × W)} : RW K fa c G v w → RK K fa c G r s → RK K fa c G ((k, v) :: r) ((k, w) :: s)
inductive RT (K : Frag) (fa : Nat → Addr) (c : StA) (G : Hp) : List (List Key × V) → List (List Key × W) → Prop
  | nil : RT K fa c G [] []
  | cons {k : List Key} {v : V} {w : W} {r : List (List Key × V)} {s : List (List Key × W)} : RW K fa c G v w → RT K fa c G r s → RT K fa c G ((k, v) :: r) ((k, w) :: s)
end
mutual
theorem RW.mono {K : Frag} {fa : Nat → Addr} {c : StA} {G G' : Hp} (e : Same G G') {v : V} {w : W} : RW K fa c G v w → RW K fa c G' v w
  | .d h => .d (RD.mono e _ _ h)
  | .tok => .tok
  | .fn i => .fn i
  | .dK h r => .dK (e _ _ h) (RK.mono e r)
  | .dT h r => .dT (e _ _ h) (RT.mono e r)
theorem RK.mono {K : Frag} {fa : Nat → Addr} {c : StA} {G G' : Hp} (e : Same G G') {r : List (Key × V)} {s : List (Key × W)} : RK K fa c G r s → RK K fa c G' r s
  | .nil => .nil
  | .cons h t => .cons (RW.mono e h) (RK.mono e t)
theorem RT.mono {K : Frag} {fa : Nat → Addr} {c : StA} {G G' : Hp} (e : Same G G') {r : List (List Key × V)} {s : List (List Key × W)} : RT K fa c G r s → RT K fa c G' r s
  | .nil => .nil
  | .cons h t => .cons (RW.mono e h) (RT.mono e t)
end
inductive RWs (K : Frag) (fa : Nat → Addr) (c : StA) (G : Hp) : List V → List W → Prop
  | nil : RWs K fa c G [] []
  | cons {v : V} {w : W} {vs : List V} {ws : List W} : RW K fa c G v w → RWs K fa c G vs ws → RWs K fa c G (v :: vs) (w :: ws)
theorem RWs.mono {K : Frag} {fa : Nat → Addr} {c : StA} {G G' : Hp} (e : Same G G') : ∀ {vs : List V} {ws : List W}, RWs K fa c G vs ws → RWs K fa c G' vs ws
  | _, _, .nil => .nil
  | _, _, .cons h t => .cons (h.mono e) (t.mono e)
theorem RWs.len {K : Frag} {fa : Nat → Addr} {c : StA} {G : Hp} : ∀ {vs : List V} {ws : List W}, RWs K fa c G vs ws → vs.length = ws.length
  | _, _, .nil => rfl
  | _, _, .cons _ t => congrArg (· + 1) t.len
theorem RWs.datas {K : Frag} {fa : Nat → Addr} {c : StA} {G : Hp} : ∀ {vs : List V} {ws : List W} {ds : List PyData}, RWs K fa c G vs ws → DS.datas ws = some ds → RDs K G vs ds
  | _, _, ds, .nil, e => by cases e; exact .nil
  | _, _, ds, .cons (w := w) (ws := ws) h t, e => by
    unfold DS.datas at e
    cases q : DS.datas ws with
    | none => rw [q] at e; cases w <;> cases e
    | some xs =>
      rw [q] at e
      cases h with
      | d h => cases e; exact .cons h (t.datas q)
      | tok => cases e
      | fn _ => cases e
      | dK _ _ => cases e
      | dT _ _ => cases e
theorem RW.data {K : Frag} {fa : Nat → Addr} {c : StA} {G : Hp} {v : V} {x : PyData} (h : RW K fa c G v (.d x)) : RD K G v x := by
  cases h; assumption
theorem RW.inti {K : Frag} {fa : Nat → Addr} {c : StA} {G : Hp} {v : V} {i : Int} (h : RW K fa c G v (.d (.int i))) : v = .int i := by
  cases h with | d h => cases h; rfl
theorem RW.booli {K : Frag} {fa : Nat → Addr} {c : StA} {G : Hp} {v : V} {i : Bool} (h : RW K fa c G v (.d (.bool i))) : v = .bl i := by
  cases h with | d h => cases h; rfl

/-! ### own objects -/
/-- a list or dict at a that is hidden, its items not -/
inductive Own (K : Frag) (fa : Nat → Addr) (c : StA) (G H : Hp) (a : Addr) : W → Prop
  | lst {xs : List V} {ds : List PyData} : H a = some (.lst xs) → RDs K G xs ds → Own K fa c G H a (.d (.list ds))
  | dK {kvs : List (Key × V)} {ws : List (Key × W)} : H a = some (.dK kvs) → RK K fa c G kvs ws → Own K fa c G H a (.dK ws)
  | dT {kvs : List (List Key × V)} {ws : List (List Key × W)} : H a = some (.dT kvs) → RT K fa c G kvs ws → Own K fa c G H a (.dT ws)
theorem Own.mono {K : Frag} {fa : Nat → Addr} {c : StA} {G G' H H' : Hp} {a : Addr} {w : W} (o : Own K fa c G H a w) (e : Same G G') (h : H' a = H a) : Own K fa c G' H' a w := by
  cases o with
  | lst h1 h2 => exact .lst (h.trans h1) (RDs.mono e _ _ h2)
  | dK h1 h2 => exact .dK (h.trans h1) (h2.mono e)
  | dT h1 h2 => exact .dT (h.trans h1) (h2.mono e)
/-- an own object that is shown -/
theorem Own.show {K : Frag} {fa : Nat → Addr} {c : StA} {G G' H : Hp} {a : Addr} {w : W} (o : Own K fa c G H a w) (e : Same G G') (h : G' a = H a) : RW K fa c G' (.ref a) w := by
  cases o with
  | lst h1 h2 => exact .d (.lst (h.trans h1) (RDs.mono e _ _ h2))
  | dK h1 h2 => exact .dK (h.trans h1) (h2.mono e)
  | dT h1 h2 => exact .dT (h.trans h1) (h2.mono e)

/-! ### the names -/
structure EnvOk (K : Frag) (fa : Nat → Addr) (c : StA) (N : Nat) (Oi : List Addr) (B : Hp) (O : List Addr) (H : Hp) (σ : L2.St) (r : Env) : Prop where
  sub : ∀ b ∈ Oi, b ∈ O
  sO : c.sa ∈ Oi
  lO : c.la ∈ Oi
  cB : B c.ca ≠ none
  trk : ∀ b ∈ O, ∃ o, H b = some o
  st : StOk c N H
  fr : Fr c B H
  len : σ.length = r.length
  sh : ∀ (i : Nat) w, r[i]? = some (.sh w) → ∃ v, σ[i]? = some (some v) ∧ RW K fa c (hide O H) v w
  ow : ∀ (i : Nat) w, r[i]? = some (.ow w) → ∃ a, σ[i]? = some (some (.ref a)) ∧ a ∈ O ∧ B a = none ∧ a ∉ Oi ∧ Own K fa c (hide O H) H a w
  inj : ∀ (i j : Nat) w w' a, r[i]? = some (.ow w) → r[j]? = some (.ow w') → σ[i]? = some (some (.ref a)) → σ[j]? = some (some (.ref a)) → i = j
section
variable {K : Frag} {fa : Nat → Addr} {c : StA} {N N' : Nat} {Oi O : List Addr} {B H H' : Hp} {σ : L2.St} {r : Env}
theorem EnvOk.sO' (e : EnvOk K fa c N Oi B O H σ r) : c.sa ∈ O := e.sub _ e.sO
theorem EnvOk.lO' (e : EnvOk K fa c N Oi B O H σ r) : c.la ∈ O := e.sub _ e.lO
theorem EnvOk.fresh (e : EnvOk K fa c N Oi B O H σ r) {p : Addr} (h : H p = none) : p ∉ O := fun q => by
  obtain ⟨o, ho⟩ := e.trk p q
  rw [h] at ho; cases ho
/-- behind an expression: all is kept but the state -/
theorem EnvOk.step (e : EnvOk K fa c N Oi B O H σ r) (f : Fr c H H') (s : StOk c N' H') : EnvOk K fa c N' Oi B O H' σ r where
  sub := e.sub
  sO := e.sO
  lO := e.lO
  cB := e.cB
  trk := fun b hb => by
    by_cases h1 : b = c.sa
    · subst h1; exact s.sa
    · by_cases h2 : b = c.la
      · subst h2; exact s.la
      · obtain ⟨o, ho⟩ := e.trk b hb
        exact ⟨o, f b o h1 h2 ho⟩
  st := s
  fr := e.fr.trans f
  len := e.len
  sh := fun i w h => by
    obtain ⟨v, h1, h2⟩ := e.sh i w h
    exact ⟨v, h1, h2.mono (f.hide e.sO' e.lO')⟩
  ow := fun i w h => by
    obtain ⟨a, h1, h2, h3, h4, h5⟩ := e.ow i w h
    obtain ⟨o, ho⟩ := e.trk a h2
    have n1 : a ≠ c.sa := fun q => h4 (q ▸ e.sO)
    have n2 : a ≠ c.la := fun q => h4 (q ▸ e.lO)
    exact ⟨a, h1, h2, h3, h4, h5.mono (f.hide e.sO' e.lO') ((f a o n1 n2 ho).trans ho.symm)⟩
  inj := e.inj
end
end DS

set_option Elab.async false
set_option linter.all false
set_option maxRecDepth 100000
set_option maxHeartbeats 4000000
/-! DS2: the text against the small language; readings. -/
namespace DS
open PySem PySem.Spec PyProof.Rows L2

/-! ### what stands around -/
structure Stc where
  P : Program
  w : World
  K : Frag
  mg : Str → Option Value
  base : Heap
  k : Nat
  fa : Nat → Addr
  ct : Nat → Addr
  fs : Fns
  gs : List W
  fn : List Str
  gn : List Str

inductive RF (K : Frag) (G : Hp) : List (Str × V) → List (Str × PyData) → Prop
  | nil : RF K G [] []
  | cons {x : Str} {v : V} {d : PyData} {r : List (Str × V)} {s : List (Str × PyData)} : RD K G v d → RF K G r s → RF K G ((x, v) :: r) ((x, d) :: s)
theorem RF.mono {K : Frag} {G G' : Hp} (e : Same G G') : ∀ {r : List (Str × V)} {s : List (Str × PyData)}, RF K G r s → RF K G' r s
  | _, _, .nil => .nil
  | _, _, .cons h t => .cons (RD.mono e _ _ h) (t.mono e)
/-- an error in the heap -/
def XR (T : Stc) (O : List Addr) (H : Hp) (x : Exc) (cls : Value) (d : Option Addr) : Prop :=
  cls = .ref (T.ct x.cls) ∧ ((x.fs = [] ∧ d = none) ∨ ∃ dx fs, d = some dx ∧ dx ∉ O ∧ H dx = some (.xd fs) ∧ RF T.K (hide O H) fs x.fs)
abbrev EXk := Exc → Nat → Prop
/-- what is wanted of an error, from H on -/
def EX (T : Stc) (Ex : XK) (c : StA) (O : List Addr) (H : Hp) : EXk := fun x n => ∀ cls d H', Fr c H H' → StOk c n H' → XR T O H' x cls d → Ex cls d H'
/-- a value, or an own object that is borrowed -/
def RB (T : Stc) (c : StA) (O : List Addr) (H : Hp) (bw : Bool) (v : V) (w : W) : Prop :=
  RW T.K T.fa c (hide O H) v w ∨ (bw = true ∧ ∃ a, v = .ref a ∧ a ∈ O ∧ a ≠ c.sa ∧ a ≠ c.la ∧ Own T.K T.fa c (hide O H) H a w)
def Fin (T : Stc) (c : StA) (O : List Addr) (H : Hp) (bw : Bool) (Q : VK) : W → Nat → Prop := fun w n => ∀ v H', Fr c H H' → StOk c n H' → RB T c O H' bw v w → Q v H'
section
variable {T : Stc} {Ex : XK} {c : StA} {O Oi : List Addr} {H H1 H2 B : Hp} {bw : Bool} {Q : VK} {N n : Nat} {σ : L2.St} {r : Env}
theorem EX.step (f : Fr c H H1) {x : Exc} {n : Nat} (h : EX T Ex c O H x n) : EX T Ex c O H1 x n := fun cls d H' f' s q => h cls d H' (f.trans f') s q
theorem Fin.step (f : Fr c H H1) {w : W} {n : Nat} (h : Fin T c O H bw Q w n) : Fin T c O H1 bw Q w n := fun v H' f' s q => h v H' (f.trans f') s q
theorem RB.step (f : Fr c H H1) (h1 : c.sa ∈ O) (h2 : c.la ∈ O) (ht : ∀ b ∈ O, ∃ o, H b = some o) {v : V} {w : W} (h : RB T c O H bw v w) : RB T c O H1 bw v w := by
  rcases h with h | ⟨hb, a, e, ha, n1, n2, o⟩
  · exact .inl (h.mono (f.hide h1 h2))
  · obtain ⟨u, hu⟩ := ht a ha
    exact .inr ⟨hb, a, e, ha, n1, n2, o.mono (f.hide h1 h2) ((f a u n1 n2 hu).trans hu.symm)⟩
theorem RB.plain {v : V} {w : W} (h : RB T c O H false v w) : RW T.K T.fa c (hide O H) v w := by
  rcases h with h | ⟨z, _⟩
  · exact h
  · cases z
theorem RB.int {v : V} {i : Int} (h : RB T c O H bw v (.d (.int i))) : v = .int i := by
  rcases h with h | ⟨_, a, _, _, _, _, o⟩
  · exact h.inti
  · cases o
theorem RB.bool {v : V} {i : Bool} (h : RB T c O H bw v (.d (.bool i))) : v = .bl i := by
  rcases h with h | ⟨_, a, _, _, _, _, o⟩
  · exact h.booli
  · cases o
theorem RB.lst {v : V} {ds : List PyData} (h : RB T c O H bw v (.d (.list ds))) : ∃ a xs, v = .ref a ∧ H a = some (.lst xs) ∧ RDs T.K (hide O H) xs ds := by
  rcases h with h | ⟨_, a, e, _, _, _, o⟩
  · cases h with
    | d h => cases h with
      | lst h1 h2 => exact ⟨_, _, rfl, hide_le _ _ h1, h2⟩
  · cases o with
    | lst h1 h2 => exact ⟨_, _, e, h1, h2⟩
theorem RB.tup {v : V} {ds : List PyData} (h : RB T c O H bw v (.d (.tuple ds))) : ∃ a xs, v = .ref a ∧ SqT T.K (hide O H) a xs ∧ RDs T.K (hide O H) xs ds := by
  rcases h with h | ⟨_, a, e, _, _, _, o⟩
  · cases h with
    | d h => cases h with
      | tup h1 h2 => exact ⟨_, _, rfl, h1, h2⟩
  · cases o
theorem RB.dk {v : V} {ws : List (Key × W)} (h : RB T c O H bw v (.dK ws)) : ∃ a kvs, v = .ref a ∧ H a = some (.dK kvs) ∧ RK T.K T.fa c (hide O H) kvs ws := by
  rcases h with h | ⟨_, a, e, _, _, _, o⟩
  · cases h with
    | dK h1 h2 => exact ⟨_, _, rfl, hide_le _ _ h1, h2⟩
  · cases o with
    | dK h1 h2 => exact ⟨_, _, e, h1, h2⟩
theorem RB.dt {v : V} {ws : List (List Key × W)} (h : RB T c O H bw v (.dT ws)) : ∃ a kvs, v = .ref a ∧ H a = some (.dT kvs) ∧ RT T.K T.fa c (hide O H) kvs ws := by
  rcases h with h | ⟨_, a, e, _, _, _, o⟩
  · cases h with
    | dT h1 h2 => exact ⟨_, _, rfl, hide_le _ _ h1, h2⟩
  · cases o with
    | dT h1 h2 => exact ⟨_, _, e, h1, h2⟩
mutual
theorem dp_same {K : Frag} {G G' : Hp} (e : Same G G') : ∀ (d : PyData) (v : V), Dp K G v d → Dp K G' v d
  | .none, _, h => by cases h; exact .non
  | .bool b, _, h => by cases h; exact .bl b
  | .int b, _, h => by cases h; exact .int b
  | .str b, _, h => by cases h; exact .str b
  | .list ds, _, h => by
    cases h with
    | lst h1 h2 => exact .lst (e.seq h1) (dps_same e ds _ h2)
  | .tuple ds, _, h => by
    cases h with
    | tup h1 h2 => exact .tup (sqT_same e h1) (dps_same e ds _ h2)
  | .dict _, _, h => by cases h
theorem dps_same {K : Frag} {G G' : Hp} (e : Same G G') : ∀ (ds : List PyData) (vs : List V), DpAll K G vs ds → DpAll K G' vs ds
  | [], _, h => by cases h; exact .nil
  | d :: ds, _, h => by
    cases h with
    | cons h1 h2 => exact .cons (dp_same e d _ h1) (dps_same e ds _ h2)
end
theorem RB.dp {v : V} {x : PyData} (h : RB T c O H bw v (.d x)) : Dp T.K H v x := by
  rcases h with h | ⟨_, a, e, _, _, _, o⟩
  · exact dp_same hide_le _ _ (RD.dp _ _ h.data)
  · cases o with
    | lst h1 h2 => rw [e]; exact .lst (.inl (.inl h1)) (dps_same hide_le _ _ (RDs.dp _ _ h2))

/-- a new list, tuple -/
theorem mk_lst {K : Frag} {fa : Nat → Addr} {p : Addr} {xs : List V} {ds : List PyData} (hp : H p = none) (hO : p ∉ O) (h : RDs K (hide O H) xs ds) : RW K fa c (hide O (upd H p (.lst xs))) (.ref p) (.d (.list ds)) :=
  .d (.lst (by rw [hide_out hO]; exact upd_same) (RDs.mono (hide_same (same_new hp)) _ _ h))
theorem mk_tup {K : Frag} {fa : Nat → Addr} {p : Addr} {xs : List V} {ds : List PyData} (hp : H p = none) (hO : p ∉ O) (h : RDs K (hide O H) xs ds) : RW K fa c (hide O (upd H p (.tup xs))) (.ref p) (.d (.tuple ds)) :=
  .d (.tup (.inl (.inl (by rw [hide_out hO]; exact upd_same))) (RDs.mono (hide_same (same_new hp)) _ _ h))

/-! ### readings -/
abbrev EOk (T : Stc) := EnvOk T.K T.fa
def rdE (T : Stc) (Ex : XK) (bw : Bool) (e : E) : TE := fun σ H Q => ∃ c N Oi B O r, EOk T c N Oi B O H σ r ∧ (evE T.fs T.gs r bw e).wp N (Fin T c O H bw Q) (EX T Ex c O H)
def FinT (c : StA) (H : Hp) (Q : Bool → Hp → Prop) : Bool → Nat → Prop := fun k n => ∀ H', Fr c H H' → StOk c n H' → Q k H'
def rdT (T : Stc) (Ex : XK) (e : E) : TT := fun σ H Q => ∃ c N Oi B O r, EOk T c N Oi B O H σ r ∧ ((evE T.fs T.gs r false e).bind fun x => opt (wBool x)).wp N (FinT c H Q) (EX T Ex c O H)
def FinL (T : Stc) (c : StA) (O : List Addr) (H : Hp) (Q : List V → Hp → Prop) : List W → Nat → Prop := fun ws n => ∀ vs H', Fr c H H' → StOk c n H' → RWs T.K T.fa c (hide O H') vs ws → Q vs H'
def rdL (T : Stc) (Ex : XK) (es : EL) : TA := fun σ H Q => ∃ c N Oi B O r, EOk T c N Oi B O H σ r ∧ (evL T.fs T.gs r es).wp N (FinL T c O H Q) (EX T Ex c O H)

theorem PE.weak {X : Cx} {e : Expr} {t t' : TE} (h : PE X e t) (i : ∀ σ H Q, t' σ H Q → t σ H Q) : PE X e t' := ⟨fun pins s σ H Q I q => h.run pins s σ H Q I (i σ H Q q)⟩
theorem PT.weak {X : Cx} {e : Expr} {t t' : TT} (h : PT X e t) (i : ∀ σ H Q, t' σ H Q → t σ H Q) : PT X e t' := ⟨fun pins s σ H Q I q => h.run pins s σ H Q I (i σ H Q q)⟩
theorem PW.weak {X : Cx} {e : Expr} {t t' : TT} (h : PW X e t) (i : ∀ σ H Q, t' σ H Q → t σ H Q) : PW X e t' := ⟨fun wh pins s σ H Q I q => h.run wh pins s σ H Q I (i σ H Q q)⟩
theorem PA.weak {X : Cx} {e : List Expr} {t t' : TA} (h : PA X e t) (i : ∀ σ H Q, t' σ H Q → t σ H Q) : PA X e t' := ⟨fun pos pins s σ H Q I q => h.run pos pins s σ H Q I (i σ H Q q)⟩

/-- one part, then the rest -/
theorem rd1 {β : Type} {bw : Bool} {a : E} {f : W → M β} {Qf : β → Nat → Prop} {P : VK} (env : EOk T c N Oi B O H σ r) (h : ((evE T.fs T.gs r bw a).bind f).wp N Qf (EX T Ex c O H))
    (k : ∀ w n v H1, Fr c H H1 → EOk T c n Oi B O H1 σ r → RB T c O H1 bw v w → (f w).wp n Qf (EX T Ex c O H1) → P v H1) : rdE T Ex bw a σ H P := by
  refine ⟨c, N, Oi, B, O, r, env, M.wp_mono ?_ (fun x n h => h) (M.wp_bind.mp h)⟩
  intro w n hq v H1 f1 s1 rb
  exact k w n v H1 f1 (env.step f1 s1) rb (M.wp_mono (fun _ _ h => h) (fun x n h => h.step f1) hq)
theorem rd1T {β : Type} {a : E} {f : Bool → M β} {Qf : β → Nat → Prop} {P : Bool → Hp → Prop} (env : EOk T c N Oi B O H σ r) (h : ((evE T.fs T.gs r false a).bind fun x => (opt (wBool x)).bind f).wp N Qf (EX T Ex c O H))
    (k : ∀ b n H1, Fr c H H1 → EOk T c n Oi B O H1 σ r → (f b).wp n Qf (EX T Ex c O H1) → P b H1) : rdT T Ex a σ H P := by
  rw [← M.bind_assoc] at h
  refine ⟨c, N, Oi, B, O, r, env, M.wp_mono ?_ (fun x n h => h) (M.wp_bind.mp h)⟩
  intro b n hq H1 f1 s1
  exact k b n H1 f1 (env.step f1 s1) (M.wp_mono (fun _ _ h => h) (fun x n h => h.step f1) hq)
theorem rd1L {β : Type} {es : EL} {f : List W → M β} {Qf : β → Nat → Prop} {P : List V → Hp → Prop} (env : EOk T c N Oi B O H σ r) (h : ((evL T.fs T.gs r es).bind f).wp N Qf (EX T Ex c O H))
    (k : ∀ ws n vs H1, Fr c H H1 → EOk T c n Oi B O H1 σ r → RWs T.K T.fa c (hide O H1) vs ws → (f ws).wp n Qf (EX T Ex c O H1) → P vs H1) : rdL T Ex es σ H P := by
  refine ⟨c, N, Oi, B, O, r, env, M.wp_mono ?_ (fun x n h => h) (M.wp_bind.mp h)⟩
  intro w n hq v H1 f1 s1 rb
  exact k w n v H1 f1 (env.step f1 s1) rb (M.wp_mono (fun _ _ h => h) (fun x n h => h.step f1) hq)
end

end DS

set_option Elab.async false
set_option linter.all false
set_option maxRecDepth 100000
set_option maxHeartbeats 4000000
/-! DS3: operations by values. -/
namespace DS
open PySem PySem.Spec PySem.SeqAt PyProof.Rows L2

/-! ### the order of data -/
theorem szB_succ (op : Cop) (a b : Nat) : szB op (a + 1) (b + 1) = szB op a b := by
  cases op <;> simp [szB]
theorem ordDs_cons {op : Cop} {x y : PyData} {xs ys : List PyData} {b : Bool} (h : ordDs op (x :: xs) (y :: ys) = some b) : ∃ t, ordDs op xs ys = some t ∧ (if PyData.eqv x y = true then some t else ordD op x y) = some b := by
  unfold ordDs at h
  cases q : ordDs op xs ys with
  | none => rw [q] at h; cases h
  | some t => rw [q] at h; exact ⟨t, rfl, h⟩
theorem ordDs_all {op : Cop} : ∀ (xs ys : List PyData) (b : Bool), ordDs op xs ys = some b → ∀ j, j < xs.length → j < ys.length → PyData.eqv (xs.getD j .none) (ys.getD j .none) = false → ∃ c, ordD op (xs.getD j .none) (ys.getD j .none) = some c
  | [], _, _, _, j, h1, _, _ => absurd h1 (Nat.not_lt_zero _)
  | _ :: _, [], _, _, j, _, h2, _ => absurd h2 (Nat.not_lt_zero _)
  | x :: xs, y :: ys, b, h, 0, _, _, hf => by
    obtain ⟨t, _, q⟩ := ordDs_cons h
    have hf : PyData.eqv x y = false := hf
    rw [hf, if_neg Bool.false_ne_true] at q
    exact ⟨b, q⟩
  | x :: xs, y :: ys, b, h, j + 1, h1, h2, hf => by
    obtain ⟨t, q, _⟩ := ordDs_cons h
    simpa using ordDs_all xs ys t q j (by simpa using h1) (by simpa using h2) (by simpa using hf)
theorem lexAt_ords (op : Cop) (e r : Nat → Bool) : ∀ (xs ys : List PyData) (i : Nat) (b : Bool), (∀ j, e (i + j) = PyData.eqv (xs.getD j .none) (ys.getD j .none)) →
    (∀ j c, ordD op (xs.getD j .none) (ys.getD j .none) = some c → r (i + j) = c) → ordDs op xs ys = some b →
    Ob.lexAt e r (szB op xs.length ys.length) i (min xs.length ys.length) = b
  | [], ys, i, b, _, _, h => by
    unfold ordDs at h
    rw [show min ([] : List PyData).length ys.length = 0 by simp]
    exact Option.some.inj h
  | x :: xs, [], i, b, _, _, h => by
    unfold ordDs at h
    rw [show min (x :: xs).length ([] : List PyData).length = 0 by simp]
    exact Option.some.inj h
  | x :: xs, y :: ys, i, b, he, hr, h => by
    obtain ⟨t, ht, h⟩ := ordDs_cons h
    rw [show min (x :: xs).length (y :: ys).length = min xs.length ys.length + 1 by simp only [List.length_cons]; omega, Ob.lexAt_succ]
    have e0 : e i = PyData.eqv x y := he 0
    rw [e0]
    by_cases q : PyData.eqv x y = true
    · rw [if_pos q] at h ⊢
      cases h
      rw [show (x :: xs).length = xs.length + 1 from rfl, show (y :: ys).length = ys.length + 1 from rfl, szB_succ]
      refine lexAt_ords op e r xs ys (i + 1) b (fun j => ?_) (fun j c hc => ?_) ht
      · have := he (j + 1)
        rw [show i + 1 + j = i + (j + 1) by omega]
        simpa using this
      · have := hr (j + 1) c (by simpa using hc)
        rw [show i + 1 + j = i + (j + 1) by omega]
        exact this
    · rw [if_neg q] at h ⊢
      exact hr 0 b h
def cmpOpOf : Cop → CmpOp
  | .eq => .Eq
  | .ne => .NotEq
  | .lt => .Lt
  | .le => .LtE
  | .gt => .Gt
  | .ge => .GtE
  | .isin => .In
  | .notin => .NotIn
  | .iz => .Is
  | .inz => .IsNot
theorem rc_tuples {A : Around} {s : Shared} {l b : Addr} {items items2 : Array Value} {e r : Nat → Bool} (op : Cop) (ho : op = .lt ∨ op = .le ∨ op = .gt ∨ op = .ge) (hl : s.heap.IsTuple l items) (hb : s.heap.IsTuple b items2) (hu : A.units < cLine)
    (he : ∀ j (h1 : j < items.size) (h2 : j < items2.size), EqAt A.in1 s items[j] items2[j] (e j))
    (hr : ∀ j (h1 : j < items.size) (h2 : j < items2.size), e j = false → Ob.RcOp (cmpOpOf op) A.in1 s items[j] items2[j] (r j)) :
    Ob.RcOp (cmpOpOf op) A s (.ref l) (.ref b) (Ob.lexAt e r (szB op items.size items2.size) 0 (min items.size items2.size)) := by
  rcases ho with rfl | rfl | rfl | rfl
  · exact Ob.RcOp.tuples_lt hl hb hu he hr
  · exact Ob.RcOp.tuples_le hl hb hu he hr
  · exact Ob.RcOp.tuples_gt hl hb hu he hr
  · exact Ob.RcOp.tuples_ge hl hb hu he hr
theorem rc_ints {A : Around} {s : Shared} (op : Cop) (ho : op = .lt ∨ op = .le ∨ op = .gt ∨ op = .ge) (a b : Int) (t u : Tok) : Ob.RcOp (cmpOpOf op) A s (.int a t) (.int b u) (intB op a b) := by
  rcases ho with rfl | rfl | rfl | rfl
  · exact Ob.RcOp.lt_int a b t u
  · exact Ob.RcOp.le_int a b t u
  · exact Ob.RcOp.gt_int a b t u
  · exact Ob.RcOp.ge_int a b t u
theorem readsAll_at {h : Heap} : ∀ {us : List Value} {ds : List PyData} {as : List Addr}, ReadsAll h us ds as → ∀ (j : Nat) (h1 : j < us.length), ∃ bs, Reads h us[j] (ds.getD j .none) bs
  | _, _, _, .nil, j, h1 => absurd h1 (Nat.not_lt_zero _)
  | _, _, _, .cons q _, 0, _ => ⟨_, q⟩
  | _, _, _, .cons _ t, j + 1, h1 => by
    obtain ⟨bs, q⟩ := readsAll_at t j (by simpa using h1)
    exact ⟨bs, by simpa using q⟩
theorem readsAll_len {h : Heap} : ∀ {us : List Value} {ds : List PyData} {as : List Addr}, ReadsAll h us ds as → us.length = ds.length
  | _, _, _, .nil => rfl
  | _, _, _, .cons _ t => congrArg (· + 1) (readsAll_len t)
theorem canLayAll_at : ∀ {ds : List PyData} (j : Nat), PyData.canLayAll0 ds = true → (ds.getD j .none).canLay0 = true
  | [], _, _ => by simp [PyData.canLay0]
  | d :: ds, 0, h => by
    have : d.canLay0 = true ∧ PyData.canLayAll0 ds = true := by simpa [PyData.canLayAll0] using h
    exact this.1
  | d :: ds, j + 1, h => by
    have : d.canLay0 = true ∧ PyData.canLayAll0 ds = true := by simpa [PyData.canLayAll0] using h
    simpa using canLayAll_at j this.2
theorem depthAll_at : ∀ {ds : List PyData} (j : Nat), (ds.getD j .none).depth ≤ PyData.depthAll ds
  | [], _ => by simp [PyData.depth]
  | d :: ds, 0 => by
    show d.depth ≤ PyData.depthAll (d :: ds)
    unfold PyData.depthAll
    omega
  | d :: ds, j + 1 => by
    have := depthAll_at (ds := ds) j
    show (ds.getD j .none).depth ≤ PyData.depthAll (d :: ds)
    unfold PyData.depthAll
    omega
/-- data are compared as told -/
theorem rc_data (op : Cop) (ho : op = .lt ∨ op = .le ∨ op = .gt ∨ op = .ge) : ∀ (k : Nat) (x y : PyData) (b : Bool) (A : Around) (s : Shared) (u v : Value) (as bs : List Addr), x.depth ≤ k → ordD op x y = some b → Reads s.heap u x as → Reads s.heap v y bs →
    x.canLay0 = true → y.canLay0 = true → A.units + k < cLine → Ob.RcOp (cmpOpOf op) A s u v b := by
  intro k
  induction k with
  | zero =>
    intro x y b A s u v as bs hk h ru rv cx cy hu
    cases x with
    | int i =>
      cases y with
      | int j =>
        cases ru
        cases rv
        unfold ordD at h
        cases h
        exact rc_ints op ho i j _ _
      | _ => simp [ordD] at h
    | tuple xs =>
      simp [PyData.depth] at hk
    | _ => simp [ordD] at h
  | succ k ih =>
    intro x y b A s u v as bs hk h ru rv cx cy hu
    cases x with
    | int i =>
      cases y with
      | int j =>
        cases ru
        cases rv
        unfold ordD at h
        cases h
        exact rc_ints op ho i j _ _
      | _ => simp [ordD] at h
    | tuple xs =>
      cases y with
      | tuple ys =>
        unfold ordD at h
        cases ru with
        | tuple g1 g2 g3 g4 =>
          cases rv with
          | tuple f1 f2 f3 f4 =>
            rename_i a0 o vs n a2 o2 vs2 n2
            have l1 := readsAll_len g4
            have l2 := readsAll_len f4
            have cx' : PyData.canLayAll0 xs = true := by simpa [PyData.canLay0] using cx
            have cy' : PyData.canLayAll0 ys = true := by simpa [PyData.canLay0] using cy
            have hk' : PyData.depthAll xs ≤ k := by
              have : (PyData.tuple xs).depth = PyData.depthAll xs + 1 := by simp [PyData.depth, Nat.add_comm]
              omega
            have at1 : ∀ j (h1 : j < vs.size), ∃ cs, Reads s.heap vs[j] (xs.getD j .none) cs := fun j h1 => by
              have := readsAll_at g4 j (by simpa using h1)
              simpa using this
            have at2 : ∀ j (h1 : j < vs2.size), ∃ cs, Reads s.heap vs2[j] (ys.getD j .none) cs := fun j h1 => by
              have := readsAll_at f4 j (by simpa using h1)
              simpa using this
            have R := rc_tuples (A := A) (s := s) op ho (e := fun j => PyData.eqv (xs.getD j .none) (ys.getD j .none)) (r := fun j => (ordD op (xs.getD j .none) (ys.getD j .none)).getD b) ⟨o, g1, g2, n, g3⟩ ⟨o2, f1, f2, n2, f3⟩ (by omega)
              (fun j h1 h2 => by
                obtain ⟨cs, q1⟩ := at1 j h1
                obtain ⟨ds, q2⟩ := at2 j h2
                refine SeqAt.eqAt_reads _ _ _ s _ _ _ _ q1 q2 (canLayAll_at j cx') (canLayAll_at j cy') ?_
                have d1 := depthAll_at (ds := xs) j
                have d2 : min (xs.getD j .none).depth (ys.getD j .none).depth ≤ (xs.getD j .none).depth := Nat.min_le_left _ _
                show A.units + 1 + _ < cLine
                omega)
              (fun j h1 h2 hf => by
                obtain ⟨cs, q1⟩ := at1 j h1
                obtain ⟨ds, q2⟩ := at2 j h2
                have d1 := depthAll_at (ds := xs) j
                cases hq : ordD op (xs.getD j .none) (ys.getD j .none) with
                | some z =>
                  exact ih _ _ z A.in1 s _ _ _ _ (by omega) hq q1 q2 (canLayAll_at j cx') (canLayAll_at j cy') (by show A.units + 1 + k < cLine; omega)
                | none =>
                  obtain ⟨z, hz⟩ := ordDs_all xs ys b h j (by have : vs.size = xs.length := by simpa using l1
                                                              omega) (by have : vs2.size = ys.length := by simpa using l2
                                                                         omega) hf
                  rw [hz] at hq
                  cases hq)
            rw [show vs.size = xs.length by simpa using l1, show vs2.size = ys.length by simpa using l2] at R
            rw [lexAt_ords op _ _ xs ys 0 b (fun j => by simp) (fun j z hz => by simp only [Nat.zero_add]; rw [hz]; rfl) h] at R
            exact R
      | _ => simp [ordD] at h
    | _ => simp [ordD] at h
end DS

set_option Elab.async false
set_option linter.all false
set_option maxRecDepth 100000
set_option maxHeartbeats 4000000
/-! DX0: set(..) of a list or of a tuple. -/
namespace DS
open PySem PySem.Spec PyProof PyProof.Rows L2
inductive Src (h : Heap) (l : Addr) (items : Array Value) : Prop
  | lst : h.IsList l items → Src h l items
  | tup : h.IsTuple l items → Src h l items
theorem Src.lt {h : Heap} {l : Addr} {items : Array Value} : Src h l items → l < h.objs.size
  | .lst ⟨_, e, _⟩ => Heap.lt_size e
  | .tup ⟨_, e, _⟩ => Heap.lt_size e
abbrev bareSet (w : World) : Obj := { cls := .type "set", dict := none, data := .set #[] 0 (.fresh 0 0 (!w.params.followText "set-order")) }
abbrev G0 : Array GenState → Array GenState → Prop := fun a b => b = a
section
variable {P : Program} {w : World} {A : Around} {E : Value → Shared → Prop} {s : Shared}
/-- the loop that fills a new set, from its first turn on -/
abbrev SetLoop (P : Program) (w : World) (A' : Around) (S : Addr) (items : Array Value) (h0 : Heap) (R : Heap → Prop) : Prop :=
  ∀ (I : Addr) (fp : List Addr) (St : Nat → Shared → Prop) (s1 : Shared), WalksS P w A'.in1 I fp [I] G0 items.size (fun i v => items[i]? = some v) St → St 0 s1 → S ∉ fp → S < I →
    (∀ b o, h0.get? b = some o → s1.heap.get? b = some o) → s1.heap.get? S = some (bareSet w) →
    codeAny (model P w) A' (.builtin "set.update.loop" ⟨[.ref S, .ref I], []⟩) (fun r s2 => r = .ok (.ret .none) ∧ Moved [S, I] G0 s1 s2 ∧ R s2.heap) s1
/-- both iterators -/
theorem src_iter {l S : Addr} {items : Array Value} {s1 : Shared} {Q : Value → Shared → Prop} {A' A2 : Around} (hh : A'.in1.handled = none) (src : Src s1.heap l items) (hlS : l < S) (hz : s1.heap.objs.size = S + 1)
    (h : ∀ (fp : List Addr) (St : Nat → Shared → Prop) (s2 : Shared), WalksS P w A'.in1 s1.heap.objs.size fp [s1.heap.objs.size] G0 items.size (fun i v => items[i]? = some v) St → St 0 s2 → S ∉ fp →
      (∀ b o, s1.heap.get? b = some o → s2.heap.get? b = some o) → Moved [S, s1.heap.objs.size] G0 s1 s2 → s2.toks = s1.toks → Q (.ref s1.heap.objs.size) s2) : wpAny (model P w) A2 (pyIter (.ref l)) Q E s1 := by
  have hne : l ≠ s1.heap.objs.size := Nat.ne_of_lt (Nat.lt_of_lt_of_eq (Nat.lt_succ_of_lt hlS) hz.symm)
  have hSf : S ∉ [s1.heap.objs.size, l] := by
    intro z
    rcases List.mem_cons.mp z with z | z
    · exact Nat.ne_of_lt (Nat.lt_of_lt_of_eq (Nat.lt_succ_self S) hz.symm) z
    · exact Nat.ne_of_gt hlS (List.mem_singleton.mp z)
  have old : ∀ (o2 : Obj) b o, s1.heap.get? b = some o → (s1.heap.push o2).get? b = some o := fun o2 b o e => Heap.get?_push_of_some _ e
  cases src with
  | lst hl => exact wpAny_pyIter_list hl (h _ _ _ ((Walks.list hh _ l hne items).toS) ⟨⟨_, Heap.get?_push_size _ rfl, rfl, rfl⟩, hl.push _⟩ hSf (old _) ⟨fun b o _ e => old _ b o e, rfl, rfl, rfl, Nat.le_refl _⟩ rfl)
  | tup hl => exact wpAny_pyIter_tuple hl (h _ _ _ ((Walks.tuple hh _ l hne items).toS) ⟨⟨_, Heap.get?_push_size _ rfl, rfl, rfl⟩, hl.push _⟩ hSf (old _) ⟨fun b o _ e => old _ b o e, rfl, rfl, rfl, Nat.le_refl _⟩ rfl)
theorem init_src {l : Addr} {items : Array Value} {R : Heap → Prop} {s1 : Shared} {S : Addr} {Fn : PySem.Fin → Shared → Prop} (hh : A.in1.handled = none) (src : Src s1.heap l items) (hlS : l < S) (hS1 : s1.heap.get? S = some (bareSet w)) (hz : s1.heap.objs.size = S + 1)
    (loop : SetLoop P w A S items s1.heap R) (h : ∀ s2, Moved [S, s1.heap.objs.size] G0 s1 s2 → R s2.heap → Fn (.done (.ret .none)) s2) : wpAny (model P w) A (Builtin.«set.__init__» ⟨[.ref S, .ref l], []⟩) Fn E s1 := by
  have go : ∀ {A2 : Around}, wpAny (model P w) A2 (pyIter (.ref l)) (fun it s2 => ∃ fp St, it = .ref s1.heap.objs.size ∧ WalksS P w A.in1 s1.heap.objs.size fp [s1.heap.objs.size] G0 items.size (fun i v => items[i]? = some v) St ∧ St 0 s2 ∧ S ∉ fp ∧
      (∀ b o, s1.heap.get? b = some o → s2.heap.get? b = some o) ∧ Moved [S, s1.heap.objs.size] G0 s1 s2) E s1 :=
    src_iter (A' := A) hh src hlS hz fun fp St s2 W st0 hSf old mv _ => ⟨fp, St, rfl, W, st0, hSf, old, mv⟩
  have fin : ∀ (it : Value) s2, (∃ fp St, it = .ref s1.heap.objs.size ∧ WalksS P w A.in1 s1.heap.objs.size fp [s1.heap.objs.size] G0 items.size (fun i v => items[i]? = some v) St ∧ St 0 s2 ∧ S ∉ fp ∧
      (∀ b o, s1.heap.get? b = some o → s2.heap.get? b = some o) ∧ Moved [S, s1.heap.objs.size] G0 s1 s2) → wpAny (model P w) A (runValue (.builtin "set.update.loop" ⟨[.ref S, it], []⟩)) (fun _ s3 => Fn (.done (.ret .none)) s3) E s2 := by
    rintro it s2 ⟨fp, St, rfl, W, st0, hSf, old, mv⟩
    refine wpAny_runValue (codeAny_mono (loop _ fp St s2 W st0 hSf (Nat.lt_of_lt_of_eq (Nat.lt_succ_self S) hz.symm) old (old _ _ hS1)) fun r s3 hr => ?_)
    obtain ⟨rfl, m2, r3⟩ := hr
    exact h s3 (Moved.trans (fun a b c x y => y.trans x) mv m2) r3
  have a1 := PySem.F.sub_list_set
  have a2 := PySem.F.sub_list_frozenset
  have a3 := PySem.F.sub_tuple_set
  have a4 := PySem.F.sub_tuple_frozenset
  have a5 : (Value.type "list" == Value.type "dict") = false := by decide
  have a6 : (Value.type "tuple" == Value.type "dict") = false := by decide
  unfold Builtin.«set.__init__» noKeywords Builtin.Frozenset.updateFrom
  rcases src with ⟨⟨c0, d0, t0, o0⟩, e0, k0, n0, q0⟩ | ⟨⟨c0, d0, t0, o0⟩, e0, k0, n0, q0⟩
  · have k0 : c0 = .type "list" := k0
    have q0 : t0 = _ := q0
    subst k0; subst q0
    generalize hI : pyIter = PI
    wp_walk
    subst hI
    exact wpAny_mono go (fun it s2 hs => wpAny_bind (wpAny_mono (fin it s2 hs) (fun _ s3 hs3 => wpAny_pure (wpAny_pure hs3)) fun _ _ z => z)) fun _ _ z => z
  · have k0 : c0 = .type "tuple" := k0
    have q0 : t0 = _ := q0
    subst k0; subst q0
    generalize hI : pyIter = PI
    wp_walk
    subst hI
    exact wpAny_mono go (fun it s2 hs => wpAny_bind (wpAny_mono (fin it s2 hs) (fun _ s3 hs3 => wpAny_pure (wpAny_pure hs3)) fun _ _ z => z)) fun _ _ z => z
/-- set(..), by its loop -/
theorem call_set_src {l : Addr} {items : Array Value} {R : Heap → Prop} {Q : Value → Shared → Prop} (hh : A.handled = none) (src : Src s.heap l items)
    (loop : ∀ h1 : Heap, (∀ b o, s.heap.get? b = some o → h1.get? b = some o) → SetLoop P w A.in1.in1 s.heap.objs.size items h1 R)
    (h : ∀ (h' : Heap) (tk : Nat), R h' → (∀ b o, s.heap.get? b = some o → h'.get? b = some o) → Q (.ref s.heap.objs.size) { s with heap := h', toks := tk }) : wpAny (model P w) A (call (.type "set") [.ref l]) Q E s := by
  have made := PySem.F.called_set.made
  have sub := PySem.F.called_set.sub
  have nty := PySem.F.called_set.notType
  have can := PySem.F.called_set.canCreate
  have one := PySem.F.typeCall_set_1 (.ref l)
  obtain ⟨_, _, mro⟩ := PySem.F.called_set.mro
  refine wpAny_call (codeAny_of_tree ?_)
  show wpAny _ _ (callAny (.type "set") _) _ _ _
  refine wpAny_pure ⟨Code.quiet_builtin _ (by decide +kernel), codeAny_builtin PySem.F.entry_type_call ?_⟩
  rw [Around.under_plain (weight_type_call_type "set" [.ref l] []) rfl]
  repeat (any_goals (first | assumption | wp_step))
  refine codeAny_mono (L2.code_set_led1 (.ref l) (E := E) (Q₁ := fun v s1 => v = .ref s.heap.objs.size ∧ s1 = { s with heap := s.heap.push (bareSet w) }) ⟨rfl, rfl⟩) fun r0 s0 hr0 => ?_
  rcases r0 with e | fl
  · exact hr0
  rcases fl with v | _ | _ | _
  rotate_left
  all_goals first | exact hr0.elim | skip
  obtain ⟨rfl, rfl⟩ := hr0
  have hS : (s.heap.push (bareSet w)).get? s.heap.objs.size = some (bareSet w) := Heap.get?_push_size _ rfl
  have ty : Shared.TypeIs { s with heap := s.heap.push (bareSet w) } (.ref s.heap.objs.size) "set" := ⟨_, hS, rfl⟩
  have lk := PySem.F.called_set.init.lookup
  have bd := PySem.F.called_set.init.bind (.ref s.heap.objs.size)
  repeat (any_goals (first | assumption | wp_step))
  have old : ∀ b o, s.heap.get? b = some o → (s.heap.push (bareSet w)).get? b = some o := fun b o e => Heap.get?_push_of_some _ e
  have src1 : Src (s.heap.push (bareSet w)) l items := by
    cases src with
    | lst x => exact .lst (x.push _)
    | tup x => exact .tup (x.push _)
  refine codeAny_mono (codeAny_call_builtin (R := wants (fun r s2 => r = .none ∧ ∃ h' tk, s2 = { s with heap := h', toks := tk } ∧ R h' ∧ ∀ b o, s.heap.get? b = some o → h'.get? b = some o) E) PySem.F.called_set.init.plain PySem.F.entry_set_init
    (check_set_init_1 ty (init_src (s1 := { s with heap := s.heap.push (bareSet w) }) (R := R) ?_ src1 (Src.lt src) hS (size_push' _ _) ?_ fun s2 mv hR => ?_))) fun r2 s2 hr2 => ?_
  · simp [hh]
  · exact fun I fp St s3 W st0 n1 n2 o1 o2 => loop _ old I fp St s3 W st0 n1 n2 o1 o2
  · obtain ⟨h', g2, d', tk', os'⟩ := s2
    have e1 : g2 = s.gens := mv.gens
    have e2 : d' = s.drawn := mv.drawn
    have e3 : os' = s.os := mv.os
    subst e1; subst e2; subst e3
    refine ⟨rfl, h', tk', rfl, hR, fun b o e => mv.heap b o (fun z => ?_) (old b o e)⟩
    have hb := Heap.lt_size e
    rcases List.mem_cons.mp z with z | z
    · exact Nat.ne_of_lt hb z
    · have := List.mem_singleton.mp z
      rw [size_push'] at this
      exact Nat.ne_of_lt (Nat.lt_succ_of_lt hb) this
  · rcases r2 with e | fl
    · exact hr2
    rcases fl with v | _ | _ | _
    rotate_left
    all_goals first | exact hr2.elim | skip
    obtain ⟨rfl, h', tk, rfl, hR, ho⟩ := hr2
    repeat (any_goals (first | assumption | wp_step))
    exact h _ _ hR ho
end
end DS

set_option Elab.async false
set_option linter.all false
set_option maxRecDepth 100000
set_option maxHeartbeats 4000000
/-! DX1: sorted lists and sets of tuples of ints of any lengths; sets of ints. -/
namespace DS
open PySem PySem.Spec PyProof PyProof.Rows L2
section
variable {P : Program} {w : World} {A : Around} {E : Value → Shared → Prop} {s : Shared}
theorem lex_kat {b : Bool} {Q : Bool → Shared → Prop} : ∀ {xs ys : List Value} {ns ms : List Int} (i : Nat), IntsAre xs ns → IntsAre ys ms → Q (HT.lexLt ns ms) s → PySem.W.KatLex P w A b (decide (ns.length < ms.length)) Q (xs.zip ys) i s
  | _, _, _, _, i, .nil, .nil, h => PySem.W.kat_nil h
  | _, _, _, _, i, .nil, .cons q u hy, h => PySem.W.kat_nil (by
      rw [HT.lexLt_nil_cons] at h
      rw [decide_eq_true (by simp)]; exact h)
  | _, _, _, _, i, .cons p t hx, .nil, h => PySem.W.kat_nil (by
      rw [HT.lexLt_cons_nil] at h
      rw [decide_eq_false (by simp)]; exact h)
  | _, _, _, _, i, .cons (vs := xs) (ns := ns) p t hx, .cons (vs := ys) (ns := ms) q u hy, h => by
    have e : decide ((p :: ns).length < (q :: ms).length) = decide (ns.length < ms.length) := decide_eq_decide.mpr (by simp)
    rw [e]
    rw [HT.lexLt_cons] at h
    rw [List.zip_cons_cons]
    refine PySem.W.kat_cons (SeqAt.EqAt.int_int p t q u P w _ _ ?_)
    refine PySem.W.kat_go (fun e1 => ?_) (fun e1 => ?_)
    · have ex : p = q := by simpa using e1
      rw [if_pos ex] at h
      exact PySem.W.kat_yes (lex_kat (i + 1) hx hy h)
    · have ex : ¬ p = q := by simpa using e1
      rw [if_neg ex] at h
      exact PySem.W.kat_no (TS.oneLt_ints _ h)
theorem tups_cmp {vs : List Value} {k : Value → List Int} {b : Bool} (hp : ∀ v ∈ vs, TS.TupInts s.heap v (k v)) : SrtO.Cmp P w A s (tuples' b) (fun p => p.1 ∈ vs) (SrtO.lt2 fun v u => HT.lexLt (k v) (k u)) := by
  intro p q hm hm'
  obtain ⟨a, xs, e1, ⟨o, ho, hc, n, hd⟩, i1⟩ := hp _ hm
  obtain ⟨a', ys, e2, ⟨o', ho', hc', n', hd'⟩, i2⟩ := hp _ hm'
  show wpAny (model P w) A (keyLt' (tuples' b) p.1 q.1) (fun r s' => s' = s ∧ r = HT.lexLt (k p.1) (k q.1)) (fun _ _ => False) s
  generalize k p.1 = ns at i1 ⊢
  generalize k q.1 = ms at i2 ⊢
  rw [e1, e2]
  refine PySem.W.kat_lt ho hd ho' hd' ?_
  have l1 := i1.length
  have l2 := i2.length
  rw [Array.length_toList] at l1 l2
  rw [l1, l2]
  exact lex_kat 0 i1 i2 ⟨rfl, rfl⟩
theorem tups_firsts {h : Heap} {k : Value → List Int} : ∀ {vs : List Value}, (∀ v ∈ vs, TS.TupInts h v (k v) ∧ k v ≠ []) → ∃ fs, PySem.W.KatTups h vs fs ∧ fs.length = vs.length ∧ ∀ f ∈ fs, ∃ n t, f = Value.int n t
  | [], _ => ⟨[], PySem.W.KatTups.nil, rfl, fun f hf => by simp at hf⟩
  | v :: vs, x => by
    obtain ⟨fs, c, hl, hi⟩ := tups_firsts (vs := vs) fun u hu => x u (List.mem_cons_of_mem _ hu)
    obtain ⟨⟨a, xs, e, ⟨o, ho, hc, n, hd⟩, i⟩, hne⟩ := x v List.mem_cons_self
    subst e
    obtain ⟨m, tl, hk⟩ : ∃ m tl, k (.ref a) = m :: tl := List.exists_cons_of_ne_nil hne
    rw [hk] at i
    obtain ⟨y, ys, t, hxs, hy⟩ : ∃ y ys t, xs.toList = y :: ys ∧ y = Value.int m t := by
      cases q : xs.toList with
      | nil => rw [q] at i; cases i
      | cons y ys => rw [q] at i; cases i with | cons _ t _ => exact ⟨_, _, t, rfl, rfl⟩
    refine ⟨y :: fs, PySem.W.KatTups.cons ho hc hd (by rw [← Array.getElem?_toList, hxs]; rfl) c, by simp [hl], fun f hf => ?_⟩
    rcases List.mem_cons.mp hf with rfl | hf
    · exact ⟨m, t, hy⟩
    · exact hi f hf
theorem tups_sortable {a : Addr} {vs : List Value} {k : Value → List Int} (h0 : 0 < vs.length) (hp : ∀ v ∈ vs, TS.TupInts s.heap v (k v) ∧ k v ≠ []) (ha : ∀ o, s.heap.get? a = some o → o.cls ≠ .type "tuple") : SrtO.SortableO P w A s a vs fun v u => HT.lexLt (k v) (k u) := by
  intro h' keep
  have hp' : ∀ v ∈ vs, TS.TupInts h' v (k v) ∧ k v ≠ [] := fun v hm => ⟨(hp v hm).1.keeps fun b o e c => keep b o (fun z => by subst z; exact ha o e c) e, (hp v hm).2⟩
  obtain ⟨fs, h1, h2, h3⟩ := tups_firsts hp'
  refine ⟨tuples' true, fun Q E hq => ?_, tups_cmp fun v hv => (hp' v hv).1⟩
  refine PySem.W.kat_kind (T := .type "int") h1 (by omega) (fun f hm => ?_) (by rfl) ?_
  · obtain ⟨x, t, rfl⟩ := h3 f hm
    exact PySem.W.Looks.now
  · have e : (Value.type "int" != Value.type "tuple") = true := by decide +kernel
    rw [e]
    exact hq
theorem lst_notup {h : Heap} {a : Addr} {vs : Array Value} {n : Nat} (ha : h.get? a = some (seqObj "list" vs n)) : ∀ o, h.get? a = some o → o.cls ≠ .type "tuple" := fun o e c => by
  rw [ha] at e
  cases e
  have c2 : Value.type "list" = Value.type "tuple" := c
  exact absurd (Value.type.inj c2) (by decide)
/-- sorted(set), tuples of any lengths but 0 -/
theorem sorted_setL {a : Addr} {L : List (Addr × List Int)} {es : Array (Int × Value)} {ep : Nat} {t : SetTable} {Q : Value → Shared → Prop} (R : SetTR P w s.heap a L es ep t) (hh : A.handled = none) (hne : ∀ p ∈ L, p.2 ≠ [])
    (hQ : ∀ (s' : Shared) (p : Addr) (out : List Value) (c : Nat), (∀ b o, s.heap.get? b = some o → s'.heap.get? b = some o) → s'.gens = s.gens → s'.os = s.os → s.heap.objs.size ≤ p → s'.heap.get? p = some (seqObj "list" out.toArray c) →
      out.Perm (L.map fun q => Value.ref q.1) → out.Pairwise (fun u v => HT.lexLt (TS.intsOf s.heap v) (TS.intsOf s.heap u) = false) → Q (.ref p) s') : wpAny (model P w) A (call (.builtin "sorted") [.ref a]) Q E s := by
  obtain ⟨o, ho, hex, hd⟩ := R.ob
  have hsz := R.size
  have hfew := R.few
  refine Calls.call_function_entry kind_sorted plain_sorted entry_sorted (args_sorted1 _) ?_
  unfold Builtin.«sorted»
  refine wpAny_bind (m := checkCount "sorted" 1 1 _) (wpAny_pure ?_)
  refine wpAny_bind (collect_set (A := A.in1) hh ⟨o, ho, hex.1, hd⟩ R.fits (by unfold scanBound; omega) R.tab.ris R.led fun s1 vs k1 hz g1 o1 pm => ?_)
  have hrow : es.toList.map (·.2) = L.map fun q => Value.ref q.1 := by
    rw [R.rows]; unfold rowsOf; rw [List.map_map]; rfl
  rw [hrow] at pm
  have hvl : vs.length < 64 := by rw [pm.length_eq, List.length_map]; exact hfew
  refine wpAny_bind (wpAny_newList ?_ (by rw [sizeLine_eq]; omega))
  have hoL : (s1.heap.push (seqObj "list" vs.toArray 0)).get? s1.heap.objs.size = some (seqObj "list" vs.toArray 0) := Heap.get?_push_size _ rfl
  have tk : ∀ v ∈ vs, TS.TupInts (s1.heap.push (seqObj "list" vs.toArray 0)) v (TS.intsOf s.heap v) ∧ TS.intsOf s.heap v ≠ [] := fun v hv => by
    obtain ⟨q, hq, e⟩ := List.mem_map.mp (pm.mem_iff.mp hv)
    subst e
    have x := tupInts_of (P := P) (w := w) (R.tup q hq)
    rw [x.ints]
    exact ⟨x.keeps fun b o e _ => Heap.get?_push_of_some _ (k1 b o e), hne q hq⟩
  refine wpAny_bind (wpAny_holding (wpAny_call_entry slot_list_sort ⟨_, hoL, rfl⟩ entry_list_sort (SrtO.list_sort_ord (s := { s1 with heap := s1.heap.push (seqObj "list" vs.toArray 0) }) (NtL.swo_lexL fun v => TS.intsOf s.heap v) hoL (by rw [sizeLine_eq]; omega)
    (fun h2 => tups_sortable (by omega) tk (lst_notup hoL)) fun out a1 a2 => ⟨_, rfl, ?_⟩) (args_list_sort _)))
  obtain ⟨c, hc⟩ := sortedHeap_at (vs := vs) (out := out.toArray) hoL
  refine wpAny_pure ⟨_, rfl, hQ _ s1.heap.objs.size out c (fun b u e => ?_) g1 o1 hz hc (a2.perm.trans pm) a1⟩
  have q := k1 b u e
  have hlt := Heap.lt_size q
  show (sortedHeap (s1.heap.push (seqObj "list" vs.toArray 0)) s1.heap.objs.size vs out.toArray).get? b = some u
  rw [sortedHeap_old (Nat.ne_of_lt hlt) (by rw [size_push']; exact Nat.lt_succ_of_lt hlt)]
  exact Heap.get?_push_of_some _ q
end

/-! ### as rules -/
section
variable {X : Cx}
theorem src_of {pins : List (Addr × Obj)} {σ : L2.St} {H : Hp} {s : Shared} {a : Addr} {xs : List V} (I : Inv X pins σ H s) (h : SqL X.K H a xs ∨ SqT X.K H a xs) : ∃ its : List Value, Vals xs its ∧ Src s.heap a its.toArray := by
  rcases h with h | h
  · obtain ⟨its, rv, hl, _⟩ := I.list h
    exact ⟨its, rv, .lst hl.isList⟩
  · obtain ⟨its, rv, ⟨o, ho, hc, n, hd⟩, _⟩ := I.tuple h
    exact ⟨its, rv, .tup ⟨o, ho, hc, n, hd⟩⟩
theorem cr_setI (hc : X.calm = true) : CallR X (.type "set") (fun vs H Q => ∃ (a : Addr) (ns : List Int), vs = [V.ref a] ∧ (SqL X.K H a (ns.map V.int) ∨ SqT X.K H a (ns.map V.int)) ∧ ns.length + 1 < scanBound ∧
    ∀ p n, H p = none → n ≤ ns.length → Q (.ref p) (upd H p (SetO X.w p (fun j => decide (j ∈ ns)) n))) := by
  intro pins s σ H vs us Q I r h
  obtain ⟨a, ns, rfl, hs, hb, q⟩ := h
  obtain ⟨its, rv, src⟩ := src_of I hs
  rw [Vals.ref1 r]
  have hi : IntsAre its ns := ints_of_vals rv
  have hsz : its.toArray.size = ns.length := by rw [List.size_toArray]; exact hi.length
  refine call_set_src (R := fun h' => ∃ n, n ≤ ns.length ∧ SetR X.w h' s.heap.objs.size (fun j => decide (j ∈ ns)) n) (I.ok.hd hc) src (fun h1 o1 J fp St s1 W st0 hf hSI o2 hS => ?_) fun h' tk hR ho => ?_
  · refine set_update_ints W s.heap.objs.size hf ns hsz hb (fun i v hv => ?_) _ 0 s1 rfl (Nat.zero_le _) st0 ⟨0, Nat.le_refl _, setR_new_at hS⟩ fun s' c mv hc hR => ⟨rfl, mv, c, hsz ▸ hc, hR⟩
    have hv : its[i]? = some v := by simpa using hv
    have hlt : i < ns.length := by have := (List.getElem?_eq_some_iff.mp hv).1; rw [hi.length] at this; exact this
    obtain ⟨t, e⟩ := hi.int_at i v hv
    refine ⟨ns[i], t, List.getElem?_eq_getElem hlt, ?_⟩
    rw [e, List.getD_eq_getElem?_getD, List.getElem?_eq_getElem hlt]; rfl
  · obtain ⟨n, hn, hR⟩ := hR
    exact ⟨.ref s.heap.objs.size, upd H s.heap.objs.size (SetO X.w s.heap.objs.size (fun j => decide (j ∈ ns)) n), I.laid (t' := tk) ho (Nat.le_refl _) (setO_new hR), rfl, q _ n (I.hok.fresh (Nat.le_refl _)) hn⟩
theorem cr_setT (hc : X.calm = true) (hu : X.A.units + 65 < cLine) : CallR X (.type "set") (fun vs H Q => ∃ (a : Addr) (ks : List (Addr × List Int)), vs = [V.ref a] ∧ (SqL X.K H a (ks.map fun p => V.ref p.1) ∨ SqT X.K H a (ks.map fun p => V.ref p.1)) ∧
    (∀ p ∈ ks, SqT X.K H p.1 (p.2.map V.int)) ∧ ks.length < 64 ∧ ∀ p L, H p = none → (∀ q ∈ L, q ∈ ks) → (∀ q ∈ ks, q.2 ∈ L.map (·.2)) → Q (.ref p) (upd H p (SetTO X.prog X.w p L))) := by
  intro pins s σ H vs us Q I r h
  obtain ⟨a, ks, rfl, hs, hk, hf, q⟩ := h
  obtain ⟨its, rv, src⟩ := src_of I hs
  rw [Vals.ref1 r]
  have hit := refs_of_vals rv
  have hsz : its.toArray.size = ks.length := by rw [List.size_toArray, hit, List.length_map]
  have none_at : ∀ b, s.heap.objs.size ≤ b → s.heap.get? b = none := fun b hb => Heap.get?_none_of_le hb
  refine call_set_src (R := fun h' => ∃ L es ep t, SetTR X.prog X.w h' s.heap.objs.size L es ep t ∧ Got ks ks.length L) (I.ok.hd hc) src (fun h1 o1 J fp St s1 W st0 hf2 hSI o2 hS => ?_) fun h' tk hR ho => ?_
  · refine set_update_tups W s.heap.objs.size hf2 ks hsz hf (fun i v hv => ?_) s.heap (fun p hp => I.isT (hk p hp)) (none_at _ (Nat.le_refl _)) (fun b hb => none_at b (by rw [List.mem_singleton.mp hb]; exact Nat.le_of_lt hSI)) (by show X.A.units + 3 < cLine; omega) _ 0 s1 rfl (Nat.zero_le _) st0
      (fun b o e => o2 b o (o1 b o e)) ⟨[], #[], 0, _, setTR_fresh hS, Got.zero ks⟩ fun s' L es ep t mv hR g _ => ⟨rfl, mv, L, es, ep, t, hR, hsz ▸ g⟩
    have hv : its[i]? = some v := by simpa using hv
    rw [hit, List.getElem?_map] at hv
    cases hq : ks[i]? with
    | none => rw [hq] at hv; cases hv
    | some p => rw [hq] at hv; exact ⟨p, rfl, (Option.some.inj hv).symm⟩
  · obtain ⟨L, es, ep, t, hR, g⟩ := hR
    refine ⟨.ref s.heap.objs.size, upd H s.heap.objs.size (SetTO X.prog X.w s.heap.objs.size L), I.laid (t' := tk) ho (Nat.le_refl _) (setTO_new hR.t0), rfl, q _ L (I.hok.fresh (Nat.le_refl _)) (fun p hp => ?_) fun p hp => ?_⟩
    · exact List.mem_of_mem_take (g.sub p hp)
    · exact g.all p (by rw [List.take_length]; exact hp)
theorem cr_sortedTL (hc : X.calm = true) : CallR X (.builtin "sorted") (fun vs H Q => ∃ (a : Addr) (L : List (Addr × List Int)), vs = [V.ref a] ∧ H a = some (SetTO X.prog X.w a L) ∧ (∀ p ∈ L, SqT X.K H p.1 (p.2.map V.int)) ∧ (∀ p ∈ L, p.2 ≠ []) ∧
    ∀ (L' : List (Addr × List Int)) (p : Addr), (∀ q ∈ L', q ∈ L) → (L'.map (·.2)).Perm (L.map (·.2)) → (L.map (·.2)).Nodup → (L'.map (·.2)).Pairwise (fun q r => HT.lexLt r q = false) → H p = none → Q (.ref p) (upd H p (.lst (L'.map fun q => V.ref q.1)))) := by
  intro pins s σ H vs us Q I r h
  obtain ⟨a, L, rfl, ha, hk, hne, q⟩ := h
  have R0 : SetT0 X.prog X.w s.heap a L := (I.hok a _ ha).1
  obtain ⟨es, ep, t, R⟩ := R0.full fun p hp => I.isT (hk p hp)
  rw [Vals.ref1 r]
  refine sorted_setL R (I.ok.hd hc) hne fun s' p out c k g o hp hg pm pw => ?_
  have back : ∀ out : List Value, (∀ v ∈ out, ∃ q ∈ L, Value.ref q.1 = v) → ∃ L1 : List (Addr × List Int), out = L1.map (fun q => Value.ref q.1) ∧ ∀ q ∈ L1, q ∈ L := by
    intro out
    induction out with
    | nil => intro _; exact ⟨[], rfl, fun q hq => by simp at hq⟩
    | cons v vs ih =>
      intro hv
      obtain ⟨q, hq, e⟩ := hv v List.mem_cons_self
      obtain ⟨L1, e1, h1⟩ := ih fun u hu => hv u (List.mem_cons_of_mem _ hu)
      exact ⟨q :: L1, by rw [List.map_cons, e, e1], fun r hr => (List.mem_cons.mp hr).elim (fun z => z ▸ hq) (h1 r)⟩
  obtain ⟨L', hL, hsub⟩ := back out fun v hv => List.mem_map.mp (pm.mem_iff.mp hv)
  have key : ∀ q ∈ L, TS.intsOf s.heap (.ref q.1) = q.2 := fun q hq => (tupInts_of (P := X.prog) (w := X.w) (R.tup q hq)).ints
  have m2 : ∀ M : List (Addr × List Int), (∀ q ∈ M, q ∈ L) → (M.map fun q => Value.ref q.1).map (TS.intsOf s.heap) = M.map (·.2) := fun M hM => by
    rw [List.map_map]
    exact List.map_congr_left fun q hq => key q (hM q hq)
  have pm2 : (L'.map (·.2)).Perm (L.map (·.2)) := by
    rw [hL] at pm
    have := pm.map (TS.intsOf s.heap)
    rwa [m2 L' hsub, m2 L fun q hq => hq] at this
  have pw2 : (L'.map (·.2)).Pairwise (fun q r => HT.lexLt r q = false) := by
    rw [← m2 L' hsub, ← hL]
    exact List.pairwise_map.mpr pw
  have hlen : (L'.map fun q => V.ref q.1).length ≤ sizeLine := by
    have := pm2.length_eq
    rw [List.length_map, List.length_map] at this
    rw [List.length_map, this, sizeLine_eq]
    have := R.few
    omega
  have hn : H p = none := I.hok.fresh hp
  have hv : Vals (L'.map fun q => V.ref q.1) out := by rw [hL]; exact vals_of_refs L'
  have J : Inv X pins σ (upd H p (.lst (L'.map fun q => V.ref q.1))) { s with heap := s'.heap, gens := s'.gens, drawn := s'.drawn, toks := s'.toks } :=
    I.call (ch := []) (Un.laid k hp hn) (I.hok.laid k hp ⟨hlen, out, c, hv, hg⟩) (by rw [g]; exact I.bare) (fun _ z => nomatch z)
  have e : s' = { s with heap := s'.heap, gens := s'.gens, drawn := s'.drawn, toks := s'.toks } := by
    cases s'; cases s; cases o; rfl
  rw [e]
  exact ⟨.ref p, _, J, rfl, q L' p hsub pm2 R.nd pw2 hn⟩
end
end DS

set_option Elab.async false
set_option linter.all false
set_option maxRecDepth 100000
set_option maxHeartbeats 4000000
/-! DX2: sorted(..) of a list or of a tuple. -/
namespace DS
open PySem PySem.Spec PyProof PyProof.Rows L2
theorem Src.ob {h : Heap} {l : Addr} {items : Array Value} : Src h l items → ∃ T o n, (T = "list" ∨ T = "tuple") ∧ h.get? l = some o ∧ o.cls = .type T ∧ o.data = .seq items n
  | .lst ⟨o, e, c, n, d⟩ => ⟨"list", o, n, .inl rfl, e, c, d⟩
  | .tup ⟨o, e, c, n, d⟩ => ⟨"tuple", o, n, .inr rfl, e, c, d⟩
section
variable {P : Program} {w : World} {A : Around} {E : Value → Shared → Prop} {s : Shared}
def getC (v : Value) : Sem (List Value) := match v with
  | .ref a => do
    let o ← load a
    match o.data with
    | .seq xs _ => pure xs.toList
    | _ => unsupported "internal:collect"
  | _ => unsupported "internal:collect"
def readC (P : Program) (w : World) (A : Around) (Q : List Value → Shared → Prop) (E : Value → Shared → Prop) (r : Result) (s : Shared) : Prop := match r with
  | .ok f => (match f with
    | .ret v => wpAny (model P w) A (getC v) Q E s
    | _ => False)
  | .error e => E e s
theorem collect_src {l : Addr} {vs : List Value} {Q : List Value → Shared → Prop} (src : Src s.heap l vs.toArray) (hsz : vs.length ≤ sizeLine)
    (h : Q vs { s with heap := (s.heap.push (seqObj "list" #[] 0)).update s.heap.objs.size (Obj.mapSeq (· ++ vs.toArray)) }) : wpAny (model P w) A (collect (.ref l)) Q E s := by
  obtain ⟨T, o, n, hT, ho, hc, hd⟩ := src.ob
  have hS : (s.heap.push (seqObj "list" #[] 0)).get? s.heap.objs.size = some (seqObj "list" #[] 0) := Heap.get?_push_size _ rfl
  have fin : wpAny (model P w) A (do
      let o ← load s.heap.objs.size
      match o.data with
      | .seq xs _ => pure xs.toList
      | _ => unsupported "internal:collect") Q E { s with heap := (s.heap.push (seqObj "list" #[] 0)).update s.heap.objs.size (Obj.mapSeq (· ++ vs.toArray)) } := by
    refine wpAny_bind (wpAny_load (get?_update_seq hS _) ?_)
    have e : ((#[] : Array Value) ++ vs.toArray).toList = vs := by simp
    show wpAny _ _ (pure ((#[] : Array Value) ++ vs.toArray).toList) Q E _
    rw [e]
    exact wpAny_pure h
  unfold collect
  refine wpAny_bind (wpAny_runValue (codeAny_mono (R := readC P w A Q E) (codeAny_builtin entry_proto_collect' ?_) fun r s' hr => ?_))
  rotate_left
  · rcases r with e | f
    · exact hr
    · cases f <;> first | exact hr | exact hr.elim
  show wpAny _ _ (newList [] >>= fun x => again (.builtin "list.__iadd__" ⟨[x, .ref l], []⟩)) _ _ s
  refine wpAny_bind (wpAny_newList (wpAny_pure ⟨Code.quiet_builtin _ (by decide +kernel), codeAny_builtin entry_list_iadd' ?_⟩))
  rw [Around.under_plainId PySem.F.plain_list_iadd _]
  have hz2 : vs.toArray.size ≤ sizeLine := by simpa using hsz
  exact wpAny_extend_seq (s := { s with heap := s.heap.push (seqObj "list" #[] 0) }) (R := readC P w A Q E) s.heap.objs.size l (.ref s.heap.objs.size) 0 hT hS (Heap.get?_push_of_some _ ho) hc hd fin (hsz := hz2)
theorem sorted_src {l : Addr} {vs : List Value} {ltv : Value → Value → Bool} {Q : Value → Shared → Prop} (O : SrtO.Swo ltv) (src : Src s.heap l vs.toArray) (hz : vs.length ≤ sizeLine)
    (hS : 2 ≤ vs.length → ∀ (h₁ : Heap) (a : Addr), h₁.get? a = some (seqObj "list" vs.toArray 0) → (∀ b o, s.heap.get? b = some o → b ≠ a ∧ h₁.get? b = some o) → SrtO.SortableO P w A.in1.in1 { s with heap := h₁ } a vs ltv)
    (h : ∀ out : List Value, SrtO.Srtd ltv out → SrtO.Stb ltv out vs → Q (.ref (s.heap.objs.size + 1)) { s with heap := sortedAll s.heap vs out.toArray }) : wpAny (model P w) A (call (.builtin "sorted") [.ref l]) Q E s := by
  obtain ⟨h1, hh1⟩ : ∃ h1, h1 = (s.heap.push (seqObj "list" #[] 0)).update s.heap.objs.size (Obj.mapSeq (· ++ vs.toArray)) := ⟨_, rfl⟩
  have z1 : h1.objs.size = s.heap.objs.size + 1 := by rw [hh1, Heap.size_update, size_push']
  have at1 : (h1.push (seqObj "list" vs.toArray 0)).get? (s.heap.objs.size + 1) = some (seqObj "list" vs.toArray 0) := z1 ▸ Heap.get?_push_size _ rfl
  have old : ∀ b o, s.heap.get? b = some o → b ≠ s.heap.objs.size + 1 ∧ (h1.push (seqObj "list" vs.toArray 0)).get? b = some o := fun b o e => by
    have lt : b < s.heap.objs.size := Heap.lt_size e
    refine ⟨Nat.ne_of_lt (Nat.lt_succ_of_lt lt), Heap.get?_push_of_some _ ?_⟩
    rw [hh1, Heap.get?_update_ne _ _ _ _ (Nat.ne_of_lt lt)]
    exact Heap.get?_push_of_some _ e
  refine Calls.call_function_entry kind_sorted plain_sorted entry_sorted (args_sorted1 _) ?_
  unfold Builtin.«sorted»
  refine wpAny_bind (m := checkCount "sorted" 1 1 _) (wpAny_pure ?_)
  refine wpAny_bind (collect_src src hz ?_)
  rw [← hh1]
  refine wpAny_bind (wpAny_newList ?_ hz)
  show wpAny _ _ _ _ _ { s with heap := h1.push (seqObj "list" vs.toArray 0) }
  dsimp only
  rw [z1]
  refine wpAny_bind (wpAny_holding (wpAny_call_entry slot_list_sort ⟨_, at1, rfl⟩ entry_list_sort (SrtO.list_sort_ord O at1 hz (fun h2 => hS h2 _ _ at1 old) fun out hs hb => ⟨_, rfl, wpAny_pure ⟨_, rfl, ?_⟩⟩) (args_list_sort _)))
  have r := h out hs hb
  unfold sortedAll at r
  rw [← hh1] at r
  exact r
end

section
variable {X : Cx}
theorem cr_sortedSI : CallR X (.builtin "sorted") (fun vs H Q => ∃ (a : Addr) (ns : List Int), vs = [V.ref a] ∧ (SqL X.K H a (ns.map V.int) ∨ SqT X.K H a (ns.map V.int)) ∧ ns.length ≤ sizeLine ∧
    ∀ (ns' : List Int) (p : Addr), ns'.Perm ns → ns'.Pairwise (· ≤ ·) → H p = none → Q (.ref p) (upd H p (.lst (ns'.map V.int)))) := by
  intro pins s σ H vs us Q I r h
  obtain ⟨a, ns, rfl, hs, hz, q⟩ := h
  obtain ⟨its, rv, src⟩ := src_of I hs
  rw [Vals.ref1 r]
  have hi := ints_of_vals rv
  have hl : its.length ≤ sizeLine := by rw [hi.length]; exact hz
  refine sorted_src SrtO.swo_int src hl (fun h2 h1 a' _ _ => SrtO.ints_sortable hi h2) fun out h1 h2 => ?_
  obtain ⟨k1, k2, k3⟩ := SrtO.ints_out hi h1 h2
  obtain ⟨ep, he⟩ := sortedAll_at s.heap its out.toArray
  refine ⟨.ref _, upd H (s.heap.objs.size + 1) (.lst ((out.map SrtO.iv).map V.int)), I.laid (t' := s.toks) (fun _ _ => sortedAll_old) (Nat.le_succ _) ⟨?_, out, ep, vals_of_ints k1, he⟩, rfl, q _ _ k2 k3 (I.hok.fresh (Nat.le_succ _))⟩
  rw [List.length_map, k2.length_eq]
  exact hz
theorem cr_sortedST : CallR X (.builtin "sorted") (fun vs H Q => ∃ (a : Addr) (ks : List (Addr × List Int)), vs = [V.ref a] ∧ (SqL X.K H a (ks.map fun p => V.ref p.1) ∨ SqT X.K H a (ks.map fun p => V.ref p.1)) ∧ (∀ p ∈ ks, SqT X.K H p.1 (p.2.map V.int)) ∧ (∀ p ∈ ks, p.2 ≠ []) ∧ ks.length ≤ sizeLine ∧
    ∀ (L' : List (Addr × List Int)) (p : Addr), (∀ q ∈ L', q ∈ ks) → (L'.map (·.2)).Perm (ks.map (·.2)) → (L'.map (·.2)).Pairwise (fun q r => HT.lexLt r q = false) → H p = none → Q (.ref p) (upd H p (.lst (L'.map fun q => V.ref q.1)))) := by
  intro pins s σ H vs us Q I r h
  obtain ⟨a, ks, rfl, hs, hk, hne, hz, q⟩ := h
  obtain ⟨its, rv, src⟩ := src_of I hs
  rw [Vals.ref1 r]
  have hit := refs_of_vals rv
  have hl : its.length ≤ sizeLine := by rw [hit, List.length_map]; exact hz
  have tup : ∀ p ∈ ks, TS.TupInts s.heap (.ref p.1) p.2 := fun p hp => tupInts_of (P := X.prog) (w := X.w) (I.isT (hk p hp))
  have key : ∀ p ∈ ks, TS.intsOf s.heap (.ref p.1) = p.2 := fun p hp => (tup p hp).ints
  refine sorted_src (NtL.swo_lexL fun v => TS.intsOf s.heap v) src hl (fun h2 h1 a' ha kk => ?_) fun out h1 h2 => ?_
  · refine tups_sortable (s := { s with heap := h1 }) (by omega) (fun v hv => ?_) (lst_notup ha)
    rw [hit] at hv
    obtain ⟨p, hp, rfl⟩ := List.mem_map.mp hv
    rw [key p hp]
    exact ⟨(tup p hp).keeps fun b o e _ => (kk b o e).2, hne p hp⟩
  · have back : ∀ out : List Value, (∀ v ∈ out, ∃ q ∈ ks, Value.ref q.1 = v) → ∃ L1 : List (Addr × List Int), out = L1.map (fun q => Value.ref q.1) ∧ ∀ q ∈ L1, q ∈ ks := by
      intro out
      induction out with
      | nil => intro _; exact ⟨[], rfl, fun q hq => by simp at hq⟩
      | cons v vs ih =>
        intro hv
        obtain ⟨q, hq, e⟩ := hv v List.mem_cons_self
        obtain ⟨L1, e1, h1⟩ := ih fun u hu => hv u (List.mem_cons_of_mem _ hu)
        exact ⟨q :: L1, by rw [List.map_cons, e, e1], fun r hr => (List.mem_cons.mp hr).elim (fun z => z ▸ hq) (h1 r)⟩
    have pm := h2.perm
    rw [hit] at pm
    obtain ⟨L', hL, hsub⟩ := back out fun v hv => List.mem_map.mp (pm.mem_iff.mp hv)
    have m2 : ∀ M : List (Addr × List Int), (∀ q ∈ M, q ∈ ks) → (M.map fun q => Value.ref q.1).map (TS.intsOf s.heap) = M.map (·.2) := fun M hM => by
      rw [List.map_map]
      exact List.map_congr_left fun q hq => key q (hM q hq)
    have pm2 : (L'.map (·.2)).Perm (ks.map (·.2)) := by
      rw [hL] at pm
      have := pm.map (TS.intsOf s.heap)
      rwa [m2 L' hsub, m2 ks fun q hq => hq] at this
    have pw2 : (L'.map (·.2)).Pairwise (fun q r => HT.lexLt r q = false) := by
      rw [← m2 L' hsub, ← hL]
      exact List.pairwise_map.mpr h1
    obtain ⟨ep, he⟩ := sortedAll_at s.heap its out.toArray
    have hlen : (L'.map fun q => V.ref q.1).length ≤ sizeLine := by
      have := pm2.length_eq
      rw [List.length_map, List.length_map] at this
      rw [List.length_map, this]; exact hz
    have hv : Vals (L'.map fun q => V.ref q.1) out := by rw [hL]; exact vals_of_refs L'
    exact ⟨.ref _, upd H (s.heap.objs.size + 1) (.lst (L'.map fun q => V.ref q.1)), I.laid (t' := s.toks) (fun _ _ => sortedAll_old) (Nat.le_succ _) ⟨hlen, out, ep, hv, he⟩, rfl, q L' _ hsub pm2 pw2 (I.hok.fresh (Nat.le_succ _))⟩
end
end DS

set_option Elab.async false
set_option linter.all false
set_option maxRecDepth 100000
set_option maxHeartbeats 4000000
/-! DX3: own sorting of lists of ints and of rows of ints. -/
namespace DS
open PySem PySem.Spec PyProof PyProof.Rows L2
theorem lex_anti : ∀ {a b : List Int}, HT.lexLt a b = false → HT.lexLt b a = false → a = b
  | [], [], _, _ => rfl
  | [], _ :: _, h, _ => by rw [HT.lexLt_nil_cons] at h; cases h
  | _ :: _, [], _, h => by rw [HT.lexLt_nil_cons] at h; cases h
  | x :: xs, y :: ys, h, k => by
    rw [HT.lexLt_cons] at h k
    by_cases e : x = y
    · subst e
      rw [if_pos rfl] at h k
      rw [lex_anti h k]
    · rw [if_neg e] at h
      rw [if_neg fun z => e z.symm] at k
      have := of_decide_eq_false h
      have := of_decide_eq_false k
      omega
theorem lex_irr (a : List Int) : HT.lexLt a a = false := (NtL.swo_lexL (fun x : List Int => x)).refl a
theorem lex_asy {a b : List Int} (h : HT.lexLt a b = true) : HT.lexLt b a = false := NtL.lex_asym _ _ h
/-- sorted -/
abbrev LexS (l : List (List Int)) : Prop := l.Pairwise fun a b => HT.lexLt b a = false
abbrev LexU (l : List (List Int)) : Prop := l.Pairwise fun a b => HT.lexLt a b = true
theorem lexU_S {l : List (List Int)} (h : LexU l) : LexS l := h.imp fun z => lex_asy z
theorem lexS_uniq : ∀ {l m : List (List Int)}, LexS l → LexS m → l.Perm m → l = m
  | [], m, _, _, p => by simpa using p.symm
  | x :: xs, [], _, _, p => by simp at p
  | x :: xs, y :: ys, h, k, p => by
    have e : x = y := by
      have hy : y ∈ x :: xs := p.mem_iff.mpr List.mem_cons_self
      have hx : x ∈ y :: ys := p.mem_iff.mp List.mem_cons_self
      rcases List.mem_cons.mp hy with q | q
      · exact q.symm
      · rcases List.mem_cons.mp hx with q2 | q2
        · exact q2
        · exact lex_anti ((List.pairwise_cons.mp k).1 x q2) ((List.pairwise_cons.mp h).1 y q)
    subst e
    rw [lexS_uniq (List.pairwise_cons.mp h).2 (List.pairwise_cons.mp k).2 ((List.perm_cons x).mp p)]
theorem insL_perm (x : List Int) : ∀ l, (insL x l).Perm (x :: l)
  | [] => .refl _
  | y :: ys => by
    unfold insL
    split
    · exact ((insL_perm x ys).cons y).trans (.swap _ _ _)
    · exact .refl _
theorem sortL_perm : ∀ l, (sortL l).Perm l
  | [] => .refl _
  | x :: xs => (insL_perm x (sortL xs)).trans ((sortL_perm xs).cons x)
theorem insL_sorted (x : List Int) : ∀ l, LexS l → LexS (insL x l)
  | [], _ => by simp [insL]
  | y :: ys, h => by
    unfold insL
    obtain ⟨h1, h2⟩ := List.pairwise_cons.mp h
    split
    · rename_i q
      refine List.pairwise_cons.mpr ⟨fun z hz => ?_, insL_sorted x ys h2⟩
      rcases List.mem_cons.mp ((insL_perm x ys).mem_iff.mp hz) with rfl | hz
      · exact lex_asy q
      · exact h1 z hz
    · rename_i q
      have q : HT.lexLt y x = false := by simpa using q
      refine List.pairwise_cons.mpr ⟨fun z hz => ?_, h⟩
      rcases List.mem_cons.mp hz with rfl | hz
      · exact q
      · exact NtL.lex_tr _ _ _ q (h1 z hz)
theorem sortL_sorted : ∀ l, LexS (sortL l)
  | [] => .nil
  | x :: xs => insL_sorted x _ (sortL_sorted xs)
theorem sortL_eq {l m : List (List Int)} (p : m.Perm l) (s : LexS m) : m = sortL l := lexS_uniq s (sortL_sorted l) (p.trans (sortL_perm l).symm)
theorem insLU_mem (x : List Int) : ∀ {l : List (List Int)} {z : List Int}, z ∈ insLU x l ↔ z = x ∨ z ∈ l
  | [], z => by simp [insLU]
  | y :: ys, z => by
    unfold insLU
    split
    · simp
    · split
      · rename_i e; subst e; simp
      · rw [List.mem_cons, insLU_mem x, List.mem_cons]
        constructor
        · rintro (h | h | h)
          · exact .inr (.inl h)
          · exact .inl h
          · exact .inr (.inr h)
        · rintro (h | h | h)
          · exact .inr (.inl h)
          · exact .inl h
          · exact .inr (.inr h)
theorem sortLU_mem : ∀ {l : List (List Int)} {z : List Int}, z ∈ sortLU l ↔ z ∈ l
  | [], z => Iff.rfl
  | x :: xs, z => by
    show z ∈ insLU x (sortLU xs) ↔ _
    rw [insLU_mem, sortLU_mem, List.mem_cons]
theorem lex_lt_of {a b : List Int} (h : HT.lexLt a b = false) (ne : a ≠ b) : HT.lexLt b a = true := by
  cases q : HT.lexLt b a with
  | true => rfl
  | false => exact absurd (lex_anti h q) ne
theorem lex_trans {a b c : List Int} (h : HT.lexLt a b = true) (k : HT.lexLt b c = true) : HT.lexLt a c = true := (NtL.swo_lexL (fun x : List Int => x)).ltle h (lex_asy k)
theorem insLU_sorted (x : List Int) : ∀ l, LexU l → LexU (insLU x l)
  | [], _ => by simp [insLU]
  | y :: ys, h => by
    unfold insLU
    obtain ⟨h1, h2⟩ := List.pairwise_cons.mp h
    split
    · rename_i q
      refine List.pairwise_cons.mpr ⟨fun z hz => ?_, h⟩
      rcases List.mem_cons.mp hz with rfl | hz
      · exact q
      · exact lex_trans q (h1 z hz)
    · rename_i q
      split
      · exact h
      · rename_i ne
        refine List.pairwise_cons.mpr ⟨fun z hz => ?_, insLU_sorted x ys h2⟩
        rcases (insLU_mem x).mp hz with rfl | hz
        · exact lex_lt_of (by simpa using q) ne
        · exact h1 z hz
theorem sortLU_sorted : ∀ l, LexU (sortLU l)
  | [] => .nil
  | x :: xs => insLU_sorted x _ (sortLU_sorted xs)
theorem lexU_nodup {l : List (List Int)} (h : LexU l) : l.Nodup := h.imp fun z e => by subst e; rw [lex_irr] at z; cases z
theorem sortLU_eq {l m : List (List Int)} (s : LexS m) (nd : m.Nodup) (hm : ∀ z, z ∈ m ↔ z ∈ l) : m = sortLU l :=
  lexS_uniq s (lexU_S (sortLU_sorted l)) ((List.perm_ext_iff_of_nodup nd (lexU_nodup (sortLU_sorted l))).mpr fun z => by rw [hm, sortLU_mem])
/-! ### ints -/
theorem insU_mem (x : Int) : ∀ {l : List Int} {z : Int}, z ∈ insU x l ↔ z = x ∨ z ∈ l
  | [], z => by simp [insU]
  | y :: ys, z => by
    unfold insU
    split
    · simp
    · split
      · rename_i e; subst e; simp
      · rw [List.mem_cons, insU_mem x, List.mem_cons]
        constructor
        · rintro (h | h | h)
          · exact .inr (.inl h)
          · exact .inl h
          · exact .inr (.inr h)
        · rintro (h | h | h)
          · exact .inr (.inl h)
          · exact .inl h
          · exact .inr (.inr h)
theorem sortU_mem : ∀ {l : List Int} {z : Int}, z ∈ sortU l ↔ z ∈ l
  | [], z => Iff.rfl
  | x :: xs, z => by
    show z ∈ insU x (sortU xs) ↔ _
    rw [insU_mem, sortU_mem, List.mem_cons]
theorem insU_sorted (x : Int) : ∀ l : List Int, l.Pairwise (· < ·) → (insU x l).Pairwise (· < ·)
  | [], _ => by simp [insU]
  | y :: ys, h => by
    unfold insU
    obtain ⟨h1, h2⟩ := List.pairwise_cons.mp h
    split
    · rename_i q
      refine List.pairwise_cons.mpr ⟨fun z hz => ?_, h⟩
      rcases List.mem_cons.mp hz with rfl | hz
      · exact q
      · exact Int.lt_trans q (h1 z hz)
    · rename_i q
      split
      · exact h
      · rename_i ne
        refine List.pairwise_cons.mpr ⟨fun z hz => ?_, insU_sorted x ys h2⟩
        rcases (insU_mem x).mp hz with rfl | hz
        · omega
        · exact h1 z hz
theorem sortU_sorted : ∀ l : List Int, (sortU l).Pairwise (· < ·)
  | [] => .nil
  | x :: xs => insU_sorted x _ (sortU_sorted xs)
theorem asc_uniqI : ∀ {l m : List Int}, l.Pairwise (· < ·) → m.Pairwise (· < ·) → (∀ z, z ∈ l ↔ z ∈ m) → l = m
  | [], [], _, _, _ => rfl
  | [], y :: ys, _, _, h => absurd ((h y).mpr List.mem_cons_self) (by simp)
  | x :: xs, [], _, _, h => absurd ((h x).mp List.mem_cons_self) (by simp)
  | x :: xs, y :: ys, h, k, e => by
    obtain ⟨h1, h2⟩ := List.pairwise_cons.mp h
    obtain ⟨k1, k2⟩ := List.pairwise_cons.mp k
    have hxy : x = y := by
      rcases List.mem_cons.mp ((e x).mp List.mem_cons_self) with q | q
      · exact q
      · rcases List.mem_cons.mp ((e y).mpr List.mem_cons_self) with q2 | q2
        · exact q2.symm
        · have := h1 y q2; have := k1 x q; omega
    subst hxy
    rw [asc_uniqI h2 k2 fun z => ?_]
    constructor
    · intro hz
      rcases List.mem_cons.mp ((e z).mp (List.mem_cons_of_mem _ hz)) with q | q
      · subst q; exact absurd (h1 z hz) (by omega)
      · exact q
    · intro hz
      rcases List.mem_cons.mp ((e z).mpr (List.mem_cons_of_mem _ hz)) with q | q
      · subst q; exact absurd (k1 z hz) (by omega)
      · exact q
theorem sortU_eq {l m : List Int} (s : m.Pairwise (· < ·)) (hm : ∀ z, z ∈ m ↔ z ∈ l) : m = sortU l := asc_uniqI s (sortU_sorted l) fun z => by rw [hm, sortU_mem]
theorem sortU_len : ∀ l : List Int, (sortU l).length ≤ l.length
  | [] => Nat.le_refl _
  | x :: xs => by
    have go : ∀ l : List Int, (insU x l).length ≤ l.length + 1 := by
      intro l
      induction l with
      | nil => simp [insU]
      | cons y ys ih =>
        unfold insU
        split
        · simp
        · split
          · simp
          · simpa using ih
    have := sortU_len xs
    have := go (sortU xs)
    show (insU x (sortU xs)).length ≤ xs.length + 1
    omega
end DS

set_option Elab.async false
set_option linter.all false
set_option maxRecDepth 100000
set_option maxHeartbeats 4000000
/-! DS4: operators, subscripts, calls of built-ins, by plain values. -/
namespace DS
open PySem PySem.Spec PySem.SeqAt PyProof.Rows L2

/-- what is known where an operation is done -/
structure At (T : Stc) (c : StA) (O : List Addr) (H : Hp) : Prop where
  trk : ∀ b ∈ O, ∃ o, H b = some o
theorem At.fresh {T : Stc} {c : StA} {O : List Addr} {H : Hp} (e : At T c O H) {p : Addr} (h : H p = none) : p ∉ O := fun q => by
  obtain ⟨o, ho⟩ := e.trk p q
  rw [h] at ho; cases ho
/-- the answer w, in a heap that has grown -/
def Ans (T : Stc) (c : StA) (O : List Addr) (H : Hp) (w : W) (Q : VK) : Prop := ∀ v H', Same H H' → RW T.K T.fa c (hide O H') v w → Q v H'
/-- .. that is new, if it is a list or a dict: it can be hidden -/
def RFr (T : Stc) (c : StA) (O : List Addr) (H H' : Hp) (v : V) (w : W) : Prop := RW T.K T.fa c (hide O H') v w ∧ (isBox w = true → ∃ a, v = .ref a ∧ H a = none ∧ Own T.K T.fa c (hide (a :: O) H') H' a w)
def AnsF (T : Stc) (c : StA) (O : List Addr) (H : Hp) (w : W) (Q : VK) : Prop := ∀ v H', Same H H' → RFr T c O H H' v w → Q v H'
section
variable {T : Stc} {c : StA} {O : List Addr} {H : Hp} {Q : VK} {X : Cx}
theorem Ans.f {w : W} (h : Ans T c O H w Q) : AnsF T c O H w Q := fun v H' s r => h v H' s r.1
theorem RFr.lst {xs : List V} {ds : List PyData} {p : Addr} (hp : H p = none) (hO : p ∉ O) (r : RDs T.K (hide O H) xs ds) : RFr T c O H (upd H p (.lst xs)) (.ref p) (.d (.list ds)) :=
  ⟨mk_lst hp hO r, fun _ => ⟨p, rfl, hp, .lst upd_same (RDs.mono (hide_new hp) _ _ r)⟩⟩
theorem AnsF.int {i : Int} (h : AnsF T c O H (.i i) Q) : Q (.int i) H := h _ _ (Same.refl _) ⟨.d (.int i), fun z => by cases z⟩
theorem AnsF.bool {i : Bool} (h : AnsF T c O H (.b i) Q) : Q (.bl i) H := h _ _ (Same.refl _) ⟨.d (.bl i), fun z => by cases z⟩
theorem AnsF.same {v : V} {w : W} (h : AnsF T c O H w Q) (hb : isBox w = false) (r : RW T.K T.fa c (hide O H) v w) : Q v H := h _ _ (Same.refl _) ⟨r, fun z => by rw [hb] at z; cases z⟩
theorem AnsF.lst {xs : List V} {ds : List PyData} (e : At T c O H) (h : AnsF T c O H (.d (.list ds)) Q) (r : RDs T.K (hide O H) xs ds) : ∀ p, H p = none → Q (.ref p) (upd H p (.lst xs)) := fun p hp => h _ _ (same_new hp) (.lst hp (e.fresh hp) r)
theorem AnsF.tup {xs : List V} {ds : List PyData} (e : At T c O H) (h : AnsF T c O H (.d (.tuple ds)) Q) (r : RDs T.K (hide O H) xs ds) : ∀ p, H p = none → Q (.ref p) (upd H p (.tup xs)) := fun p hp => h _ _ (same_new hp) ⟨mk_tup hp (e.fresh hp) r, fun z => by cases z⟩
theorem Ans.int {i : Int} (h : Ans T c O H (.i i) Q) : Q (.int i) H := h _ _ (Same.refl _) (.d (.int i))
theorem Ans.bool {i : Bool} (h : Ans T c O H (.b i) Q) : Q (.bl i) H := h _ _ (Same.refl _) (.d (.bl i))
theorem Ans.same {v : V} {w : W} (h : Ans T c O H w Q) (r : RW T.K T.fa c (hide O H) v w) : Q v H := h _ _ (Same.refl _) r
theorem Ans.lst {xs : List V} {ds : List PyData} (e : At T c O H) (h : Ans T c O H (.d (.list ds)) Q) (r : RDs T.K (hide O H) xs ds) : ∀ p, H p = none → Q (.ref p) (upd H p (.lst xs)) := fun p hp => h _ _ (same_new hp) (mk_lst hp (e.fresh hp) r)
theorem Ans.tup {xs : List V} {ds : List PyData} (e : At T c O H) (h : Ans T c O H (.d (.tuple ds)) Q) (r : RDs T.K (hide O H) xs ds) : ∀ p, H p = none → Q (.ref p) (upd H p (.tup xs)) := fun p hp => h _ _ (same_new hp) (mk_tup hp (e.fresh hp) r)

theorem cap_le : cap ≤ sizeLine := by rw [sizeLine_eq]; decide
def bopOf : Bop → Operator
  | .add => .Add
  | .sub => .Sub
  | .mul => .Mult
  | .fdiv => .FloorDiv
  | .mod => .Mod
  | .pow => .Pow
  | .shl => .LShift
  | .shr => .RShift
  | .band => .BitAnd
def rBin (T : Stc) (op : Bop) : R2 := fun x y H Q => ∃ c O b1 b2 a b w, At T c O H ∧ RB T c O H b1 x a ∧ RB T c O H b2 y b ∧ binW op a b = some w ∧ AnsF T c O H w Q
theorem int2_some {f : Int → Int → Option W} {a b w : W} (h : int2 f a b = some w) : ∃ i j, a = .d (.int i) ∧ b = .d (.int j) ∧ f i j = some w := by
  unfold int2 at h
  split at h
  · exact ⟨_, _, rfl, rfl, h⟩
  · cases h
theorem if_some {α : Type} {p : Prop} [Decidable p] {a b : α} (h : (if p then some a else none) = some b) : p ∧ a = b := by
  split at h
  · exact ⟨by assumption, Option.some.inj h⟩
  · cases h
theorem RDs.rep {K : Frag} {G : Hp} {vs : List V} {ds : List PyData} (h : RDs K G vs ds) : ∀ n : Nat, RDs K G (List.replicate n vs).flatten (List.replicate n ds).flatten
  | 0 => .nil
  | n + 1 => by
    rw [List.replicate_succ, List.replicate_succ, List.flatten_cons, List.flatten_cons]
    exact h.append (RDs.rep h n)
theorem if_some' {α : Type} {p : Prop} [Decidable p] {a : Option α} {b : α} (h : (if p then a else none) = some b) : p ∧ a = some b := by
  split at h
  · exact ⟨by assumption, h⟩
  · cases h
theorem op_bin (op : Bop) (hK : X.K = T.K) : OpR X (binaryOp (bopOf op)) (rBin T op) := by
  intro pins s σ H x y v u Q I rx ry ⟨c, O, b1, b2, a, b, w, e, ra, rb, hw, an⟩
  cases op with
  | add =>
    have hw : addW a b = some w := hw
    unfold addW at hw
    split at hw
    · cases hw
      exact op_add pins s σ H x y v u Q I rx ry ⟨_, _, ra.int, rb.int, an.int⟩
    · obtain ⟨hl, hw⟩ := if_some hw
      subst hw
      obtain ⟨l1, xs, e1, h1, r1⟩ := ra.lst
      obtain ⟨l2, ys, e2, h2, r2⟩ := rb.lst
      exact op_cat pins s σ H x y v u Q I rx ry ⟨l1, l2, xs, ys, e1, e2, h1, h2, by rw [r1.len, r2.len]; exact Nat.le_trans hl cap_le, an.lst e (r1.append r2)⟩
    · obtain ⟨hl, hw⟩ := if_some hw
      subst hw
      obtain ⟨l1, xs, e1, h1, r1⟩ := ra.tup
      obtain ⟨l2, ys, e2, h2, r2⟩ := rb.tup
      rename_i ds es
      refine op_catA pins s σ H x y v u Q I rx ry ⟨l1, l2, xs, ys, e1, e2, by rw [hK]; exact sqT_same hide_le h1, by rw [hK]; exact sqT_same hide_le h2, by rw [r1.len, r2.len]; exact Nat.le_trans hl cap_le, fun q => ?_, fun _ q => ?_, fun _ _ => an.tup e (r1.append r2)⟩
      · subst q
        cases r1
        rw [← e2]
        exact an.same rfl (by rw [e2]; exact .d (.tup h2 r2))
      · subst q
        cases r2
        rw [← e1]
        exact an.same rfl (by rw [e1, List.append_nil]; exact .d (.tup h1 r1))
    · cases hw
  | sub =>
    obtain ⟨i, j, rfl, rfl, hw⟩ := int2_some hw
    cases hw
    exact op_sub pins s σ H x y v u Q I rx ry ⟨i, j, ra.int, rb.int, an.int⟩
  | mul =>
    have hw : mulW a b = some w := hw
    unfold mulW at hw
    split at hw
    · obtain ⟨hc, rfl⟩ := if_some (show (if _ then _ else _) = _ from hw)
      exact op_mulW pins s σ H x y v u Q I rx ry ⟨_, _, ra.int, rb.int, hc, an.int⟩
    · obtain ⟨⟨h1, h2, h3, h4⟩, hw⟩ := if_some hw
      subst hw
      obtain ⟨l1, xs, e1, g1, r1⟩ := ra.tup
      refine op_repT pins s σ H x y v u Q I rx ry ⟨l1, _, xs, e1, rb.int, by rw [hK]; exact sqT_same hide_le g1, fun z => h1 ?_, h2, h3, by rw [r1.len]; exact h4, an.tup e (RDs.rep r1 _)⟩
      subst z; cases r1; rfl
    · cases hw
  | fdiv =>
    obtain ⟨i, j, rfl, rfl, hw⟩ := int2_some hw
    obtain ⟨hc, rfl⟩ := if_some (show (if _ then _ else _) = _ from hw)
    exact op_fdivW pins s σ H x y v u Q I rx ry ⟨i, j, ra.int, rb.int, hc, an.int⟩
  | mod =>
    obtain ⟨i, j, rfl, rfl, hw⟩ := int2_some hw
    obtain ⟨hc, rfl⟩ := if_some (show (if _ then _ else _) = _ from hw)
    exact op_mod pins s σ H x y v u Q I rx ry ⟨i, j, ra.int, rb.int, hc, an.int⟩
  | pow =>
    obtain ⟨i, j, rfl, rfl, hw⟩ := int2_some hw
    obtain ⟨hc, rfl⟩ := if_some (show (if _ then _ else _) = _ from hw)
    exact op_pow pins s σ H x y v u Q I rx ry ⟨i, j, ra.int, rb.int, hc, an.int⟩
  | shl =>
    obtain ⟨i, j, rfl, rfl, hw⟩ := int2_some hw
    obtain ⟨hc, rfl⟩ := if_some (show (if _ then _ else _) = _ from hw)
    exact op_shl pins s σ H x y v u Q I rx ry ⟨i, j, ra.int, rb.int, hc, an.int⟩
  | shr =>
    obtain ⟨i, j, rfl, rfl, hw⟩ := int2_some hw
    obtain ⟨hc, rfl⟩ := if_some (show (if _ then _ else _) = _ from hw)
    exact op_shr pins s σ H x y v u Q I rx ry ⟨i, j, ra.int, rb.int, hc, an.int⟩
  | band =>
    obtain ⟨i, j, rfl, rfl, hw⟩ := int2_some hw
    cases hw
    exact op_and pins s σ H x y v u Q I rx ry ⟨i, j, ra.int, rb.int, an.int⟩

/-! ### dicts -/
theorem RK.find {K : Frag} {fa : Nat → Addr} {G : Hp} (k : Key) : ∀ {kvs : List (Key × V)} {ws : List (Key × W)}, RK K fa c G kvs ws →
    (findV ws k = none ∧ valV kvs k = none) ∨ ∃ v w, findV ws k = some w ∧ valV kvs k = some v ∧ RW K fa c G v w
  | _, _, .nil => .inl ⟨rfl, rfl⟩
  | _, _, .cons (k := q) (v := v) (w := w) (r := r) (s := s) h t => by
    by_cases e : q = k
    · refine .inr ⟨v, w, ?_, ?_, h⟩
      · unfold findV; rw [List.find?_cons_of_pos (by simp [e])]; rfl
      · unfold valV; rw [List.find?_cons_of_pos (by simp [e])]; rfl
    · have e1 : findV ((q, w) :: s) k = findV s k := by unfold findV; rw [List.find?_cons_of_neg (by simp [e])]
      have e2 : valV ((q, v) :: r) k = valV r k := by unfold valV; rw [List.find?_cons_of_neg (by simp [e])]
      rw [e1, e2]
      exact RK.find k t
theorem RT.find {K : Frag} {fa : Nat → Addr} {G : Hp} (k : List Key) : ∀ {kvs : List (List Key × V)} {ws : List (List Key × W)}, RT K fa c G kvs ws →
    (findV ws k = none ∧ valV kvs k = none) ∨ ∃ v w, findV ws k = some w ∧ valV kvs k = some v ∧ RW K fa c G v w
  | _, _, .nil => .inl ⟨rfl, rfl⟩
  | _, _, .cons (k := q) (v := v) (w := w) (r := r) (s := s) h t => by
    by_cases e : q = k
    · refine .inr ⟨v, w, ?_, ?_, h⟩
      · unfold findV; rw [List.find?_cons_of_pos (by simp [e])]; rfl
      · unfold valV; rw [List.find?_cons_of_pos (by simp [e])]; rfl
    · have e1 : findV ((q, w) :: s) k = findV s k := by unfold findV; rw [List.find?_cons_of_neg (by simp [e])]
      have e2 : valV ((q, v) :: r) k = valV r k := by unfold valV; rw [List.find?_cons_of_neg (by simp [e])]
      rw [e1, e2]
      exact RT.find k t
theorem keyW_rel {w : W} {k : Key} {b : Bool} {x : V} (h : keyW w = some k) (r : RB T c O H b x w) : x = kV k := by
  unfold keyW at h
  split at h
  · cases h; exact r.int
  · cases h
    rcases r with r | ⟨_, a, _, _, _, _, o⟩
    · cases r with | d r => cases r; rfl
    · cases o
  · cases h
theorem keysD_rel {K : Frag} {G : Hp} : ∀ {ds : List PyData} {ks : List Key} {vs : List V}, keysD ds = some ks → RDs K G vs ds → vs = ks.map kV
  | [], _, _, h, r => by cases h; cases r; rfl
  | d :: ds, ks, _, h, r => by
    cases r with
    | cons r1 r2 =>
      unfold keysD at h
      cases q1 : keyD d with
      | none => rw [q1] at h; cases h
      | some k =>
        cases q2 : keysD ds with
        | none => rw [q1, q2] at h; cases h
        | some ks2 =>
          rw [q1, q2] at h
          cases h
          have e2 := keysD_rel q2 r2
          subst e2
          unfold keyD at q1
          split at q1
          · cases q1; cases r1; rfl
          · cases q1; cases r1; rfl
          · cases q1
/-- the tuple that is a key stands in the heap -/
theorem keyT_rel {w : W} {k : List Key} {b : Bool} {x : V} (h : keyT w = some k) (r : RB T c O H b x w) : ∃ a, x = .ref a ∧ SqT T.K H a (k.map kV) := by
  unfold keyT at h
  split at h
  · obtain ⟨a, xs, e, h1, h2⟩ := r.tup
    have e2 := keysD_rel h h2
    subst e2
    exact ⟨a, e, sqT_same hide_le h1⟩
  · cases h

/-! ### comparisons -/
def rCmp (T : Stc) (op : Cop) : R2 := fun x y H Q => ∃ c O b1 b2 a b k, RB T c O H b1 x a ∧ RB T c O H b2 y b ∧ cmpW op a b = some k ∧ Q (.bl k) H
theorem eqW_some {a b : W} {k : Bool} (h : eqW a b = some k) : ∃ x y, a = .d x ∧ b = .d y ∧ shaped x = true ∧ shaped y = true ∧ k = PyData.eqv x y := by
  unfold eqW at h
  split at h
  · obtain ⟨⟨h1, h2⟩, h3⟩ := if_some h
    exact ⟨_, _, rfl, rfl, h1, h2, h3.symm⟩
  · cases h
theorem ord_of {op : Cop} {pins : List (Addr × Obj)} {s : Shared} {σ : L2.St} {x y : V} {v u : Value} {a b : W} {b1 b2 k : Bool} (ho : op = .lt ∨ op = .le ∨ op = .gt ∨ op = .ge) (hK : X.K = T.K) (hu : X.A.units + 64 < cLine)
    (I : Inv X pins σ H s) (rx : RelV x v) (ry : RelV y u) (ra : RB T c O H b1 x a) (rb : RB T c O H b2 y b) (h : ordW op a b = some k) (q : Q (.bl k) H) : wpAny (model X.prog X.w) X.A (compareOp (cmpOpOf op) v u) (EP X pins σ Q) X.xe s := by
  unfold ordW at h
  split at h
  · split at h
    · rename_i hs
      obtain ⟨h1, h2⟩ := hs
      obtain ⟨as, r1⟩ := Dp.reads I _ x v (by rw [hK]; exact ra.dp) rx
      obtain ⟨bs, r2⟩ := Dp.reads I _ y u (by rw [hK]; exact rb.dp) ry
      have R := rc_data op ho 64 _ _ k X.A s v u as bs (depth_of_shaped h1) h r1 r2 (canLay_of_shaped h1) (canLay_of_shaped h2) hu
      have R2 := R X.prog X.w X.xe (EP X pins σ Q) ⟨.bl k, H, I, rfl, q⟩
      rcases ho with rfl | rfl | rfl | rfl <;> exact R2
    · cases h
  · cases h
theorem in_of {pins : List (Addr × Obj)} {s : Shared} {σ : L2.St} {x y : V} {v u : Value} {a b : W} {b1 b2 k : Bool} (hK : X.K = T.K) (hu : X.A.units + 65 < cLine)
    (I : Inv X pins σ H s) (rx : RelV x v) (ry : RelV y u) (ra : RB T c O H b1 x a) (rb : RB T c O H b2 y b) (h : inW a b = some k) :
    (∀ Q : VK, Q (.bl k) H → wpAny (model X.prog X.w) X.A (compareOp .In v u) (EP X pins σ Q) X.xe s) ∧ (∀ Q : VK, Q (.bl (!k)) H → wpAny (model X.prog X.w) X.A (compareOp .NotIn v u) (EP X pins σ Q) X.xe s) := by
  unfold inW at h
  split at h
  · split at h
    · obtain ⟨⟨h1, h2⟩, h3⟩ := if_some h
      subst h3
      obtain ⟨as, r1⟩ := Dp.reads I _ x v (by rw [hK]; exact ra.dp) rx
      obtain ⟨bs, r2⟩ := Dp.reads I _ y u (by rw [hK]; exact rb.dp) ry
      exact ⟨fun Q q => SeqAt.in_list_reads r2 r1 (canLay_of_shaped h2) (canLay_of_shaped h1) (room_in_shaped h1 hu) ⟨.bl _, H, I, rfl, q⟩,
        fun Q q => SeqAt.notIn_list_reads r2 r1 (canLay_of_shaped h2) (canLay_of_shaped h1) (room_in_shaped h1 hu) ⟨.bl _, H, I, rfl, q⟩⟩
    · cases h
  · split at h
    · obtain ⟨⟨h1, h2⟩, h3⟩ := if_some h
      subst h3
      obtain ⟨as, r1⟩ := Dp.reads I _ x v (by rw [hK]; exact ra.dp) rx
      obtain ⟨bs, r2⟩ := Dp.reads I _ y u (by rw [hK]; exact rb.dp) ry
      rename_i ds _ _
      have h2' : PyData.canLayAll0 ds = true := by simpa [PyData.canLay0] using canLay_of_shaped h2
      exact ⟨fun Q q => SeqAt.in_tuple_reads r2 r1 h2' (canLay_of_shaped h1) (room_in_shaped h1 hu) ⟨.bl _, H, I, rfl, q⟩,
        fun Q q => SeqAt.notIn_tuple_reads r2 r1 h2' (canLay_of_shaped h1) (room_in_shaped h1 hu) ⟨.bl _, H, I, rfl, q⟩⟩
    · cases h
  · split at h
    · rename_i kvs _ key hk
      cases h
      have ex := keyW_rel hk ra
      obtain ⟨d, vs, e, hd, rk⟩ := rb.dk
      subst e
      cases ry
      have g : DGet H d x (valV vs key) := by rw [ex]; exact .inl ⟨vs, key, .inl hd, rfl, rfl⟩
      have hb : (findV kvs key).isSome = (valV vs key).isSome := by
        rcases rk.find key with ⟨q1, q2⟩ | ⟨_, _, q1, q2, _⟩ <;> rw [q1, q2] <;> rfl
      rw [hb]
      exact ⟨fun Q q => d_in (by omega) I g rx fun s3 I3 => ⟨.bl _, H, I3, rfl, q⟩, fun Q q => d_notIn (by omega) I g rx fun s3 I3 => ⟨.bl _, H, I3, rfl, q⟩⟩
    · cases h
  · cases h
theorem op_cmp (op : Cop) (hK : X.K = T.K) (hu : X.A.units + 65 < cLine) : OpR X (compareOp (cmpOpOf op)) (rCmp T op) := by
  intro pins s σ H x y v u Q I rx ry ⟨c, O, b1, b2, a, b, k, ra, rb, h, q⟩
  have eqs : ∀ {k}, eqW a b = some k → ∃ d e, Dp X.K H x d ∧ Dp X.K H y e ∧ shaped d = true ∧ shaped e = true ∧ k = PyData.eqv d e := fun h => by
    obtain ⟨d, e, rfl, rfl, h1, h2, h3⟩ := eqW_some h
    exact ⟨d, e, by rw [hK]; exact ra.dp, by rw [hK]; exact rb.dp, h1, h2, h3⟩
  cases op with
  | eq =>
    obtain ⟨d, e, h1, h2, h3, h4, rfl⟩ := eqs h
    exact op_eqD (by omega) pins s σ H x y v u Q I rx ry ⟨d, e, h1, h2, h3, h4, q⟩
  | ne =>
    have h : (eqW a b).map (! ·) = some k := h
    cases z : eqW a b with
    | none => rw [z] at h; cases h
    | some j =>
      rw [z] at h
      cases h
      obtain ⟨d, e, h1, h2, h3, h4, rfl⟩ := eqs z
      exact op_neD (by omega) pins s σ H x y v u Q I rx ry ⟨d, e, h1, h2, h3, h4, q⟩
  | lt => exact ord_of (T := T) (.inl rfl) hK (by omega) I rx ry ra rb h q
  | le => exact ord_of (T := T) (.inr (.inl rfl)) hK (by omega) I rx ry ra rb h q
  | gt => exact ord_of (T := T) (.inr (.inr (.inl rfl))) hK (by omega) I rx ry ra rb h q
  | ge => exact ord_of (T := T) (.inr (.inr (.inr rfl))) hK (by omega) I rx ry ra rb h q
  | isin => exact (in_of (T := T) hK hu I rx ry ra rb h).1 Q q
  | notin =>
    have h : (inW a b).map (! ·) = some k := h
    cases z : inW a b with
    | none => rw [z] at h; cases h
    | some j =>
      rw [z] at h
      cases h
      exact (in_of (T := T) hK hu I rx ry ra rb z).2 Q q
  | iz =>
    have h : isW a b = some k := h
    unfold isW at h
    split at h
    · cases h
      exact op_is_bl pins s σ H x y v u Q I rx ry ⟨_, _, ra.bool, rb.bool, q⟩
    · cases h
  | inz =>
    have h : (isW a b).map (! ·) = some k := h
    unfold isW at h
    split at h
    · cases h
      exact op_isnot_bl pins s σ H x y v u Q I rx ry ⟨_, _, ra.bool, rb.bool, q⟩
    · cases h

/-! ### subscripts -/
def rIxW (T : Stc) : R2 := fun x y H Q => ∃ c O b1 b2 a b w, At T c O H ∧ RB T c O H b1 x a ∧ RB T c O H b2 y b ∧ ixW a b = some w ∧ Ans T c O H w Q
theorem atI_rel {K : Frag} {G : Hp} {xs : List V} {ds : List PyData} {i : Int} {d : PyData} (r : RDs K G xs ds) (h : atI ds i = some d) : ∃ v, atI xs i = some v ∧ RD K G v d := by
  unfold atI at h ⊢
  rw [r.len]
  cases q : ixN ds.length i with
  | none => rw [q] at h; cases h
  | some j =>
    rw [q] at h
    exact r.get h
theorem ix_w (hK : X.K = T.K) (hu : X.A.units + 65 < cLine) : IxR X (rIxW T) := by
  intro value slice pins s σ H x y v u Q I rx ry ⟨c, O, b1, b2, a, b, w, e, ra, rb, h, an⟩ hs
  unfold ixW at h
  split at h
  · split at h
    · split at h
      · rename_i ha
        cases h
        obtain ⟨p, xs, e1, h1, r1⟩ := ra.lst
        obtain ⟨z, hz, rz⟩ := atI_rel r1 ha
        exact ix_list value slice pins s σ H x y v u Q I rx ry ⟨p, xs, _, z, e1, rb.int, .inl (.inl h1), hz, an.same (.d rz)⟩ hs
      · cases h
    · cases h
  · split at h
    · split at h
      · rename_i ha
        cases h
        obtain ⟨p, xs, e1, h1, r1⟩ := ra.tup
        obtain ⟨z, hz, rz⟩ := atI_rel r1 ha
        exact ix_tup value slice pins s σ H x y v u Q I rx ry ⟨p, xs, _, z, e1, rb.int, by rw [hK]; exact sqT_same hide_le h1, hz, an.same (.d rz)⟩ hs
      · cases h
    · cases h
  · split at h
    · split at h
      · rename_i hk _ _ hf
        cases h
        have ex := keyW_rel hk rb
        obtain ⟨d, vs, e1, hd, rk⟩ := ra.dk
        subst e1
        cases rx
        rcases rk.find _ with ⟨q1, _⟩ | ⟨z, w2, q1, q2, rz⟩
        · rw [hf] at q1; cases q1
        · rw [hf] at q1
          cases q1
          have g : DGet H d y (some z) := by rw [ex, ← q2]; exact .inl ⟨vs, _, .inl hd, rfl, rfl⟩
          exact tail_any (dict_typeIs I g) PySem.F.slot_dict_getitem.lookup (d_getItem (by omega) I g ry fun w' s3 I3 rw' => ⟨z, H, I3, rw', an.same rz⟩) hs
      · cases h
    · cases h
  · cases h

/-! ### parts -/
def rSlW (T : Stc) : V → Option Int → Option Int → Hp → VK → Prop := fun x lo hi H Q => ∃ c O b1 a w, At T c O H ∧ RB T c O H b1 x a ∧ slW a lo hi = some w ∧ Ans T c O H w Q
theorem cut_rel {K : Frag} {G : Hp} {xs : List V} {ds : List PyData} (lo hi : Option Int) (r : RDs K G xs ds) : RDs K G (cutV xs lo hi) (cutD ds lo hi) := by
  unfold cutV cutD
  rw [r.len]
  exact (r.drop _).take _
theorem cutD_all {ds : List PyData} {lo hi : Option Int} (h : HT.sIx ds.length 0 lo = 0 ∧ HT.sIx ds.length ds.length hi = ds.length) : cutD ds lo hi = ds := by
  unfold cutD
  rw [h.1, h.2]
  simp
theorem sl_w (hK : X.K = T.K) : SlR X (rSlW T) := by
  intro pins s σ H x v vl vu lo hi sl Q I rx hs pl pu ⟨c, O, b1, a, w, e, ra, h, an⟩
  unfold slW at h
  split at h
  · cases h
    obtain ⟨p, xs, e1, h1, r1⟩ := ra.lst
    exact sl_list pins s σ H x v vl vu lo hi sl Q I rx hs pl pu ⟨p, xs, e1, .inl (.inl h1), an.lst e (cut_rel lo hi r1)⟩
  · cases h
    obtain ⟨p, xs, e1, h1, r1⟩ := ra.tup
    refine sl_tupA pins s σ H x v vl vu lo hi sl Q I rx hs pl pu ⟨p, xs, e1, by rw [hK]; exact sqT_same hide_le h1, fun q => ?_, fun _ => an.tup e (cut_rel lo hi r1)⟩
    rw [r1.len] at q
    rw [cutD_all q] at an
    exact an.same (.d (.tup h1 r1))
  · cases h

/-! ### calls of built-ins -/
def rB1 (T : Stc) (f : W → Option W) : List V → Hp → VK → Prop := fun xs H Q => ∃ x c O b1 a w, xs = [x] ∧ At T c O H ∧ RB T c O H b1 x a ∧ f a = some w ∧ AnsF T c O H w Q
theorem RK.len {K : Frag} {fa : Nat → Addr} {G : Hp} : ∀ {kvs : List (Key × V)} {ws : List (Key × W)}, RK K fa c G kvs ws → kvs.length = ws.length
  | _, _, .nil => rfl
  | _, _, .cons _ t => congrArg (· + 1) (RK.len t)
theorem RK.keys {K : Frag} {fa : Nat → Addr} {G : Hp} : ∀ {kvs : List (Key × V)} {ws : List (Key × W)} {is : List Int}, RK K fa c G kvs ws → keysI ws = some is → kvs.map (·.1) = is.map Sum.inl
  | _, _, is, .nil, h => by cases h; rfl
  | _, _, is, .cons (k := k) (s := s) _ t, h => by
    unfold keysI at h
    cases k with
    | inl i =>
      simp only at h
      cases q : keysI s with
      | none => rw [q] at h; cases h
      | some js =>
        rw [q] at h
        cases h
        rw [List.map_cons, RK.keys t q]
        rfl
    | inr _ => cases h
theorem call_len_w (hK : X.K = T.K) : CallR X (.builtin "len") (rB1 T lenW) := by
  intro pins s σ H xs us Q I r ⟨x, c, O, b1, a, w, e0, e, ra, h, an⟩
  unfold lenW at h
  split at h
  · cases h
    obtain ⟨p, ys, e1, h1, r1⟩ := ra.lst
    exact call_len_seq pins s σ H xs us Q I r ⟨p, ys, by rw [e0, e1], .inl (.inl (.inl h1)), by rw [r1.len]; exact an.int⟩
  · cases h
    obtain ⟨p, ys, e1, h1, r1⟩ := ra.tup
    exact call_len_seq pins s σ H xs us Q I r ⟨p, ys, by rw [e0, e1], .inr (by rw [hK]; exact sqT_same hide_le h1), by rw [r1.len]; exact an.int⟩
  · cases h
    obtain ⟨p, ys, e1, h1, r1⟩ := ra.dk
    exact call_lenD pins s σ H xs us Q I r ⟨p, ys, by rw [e0, e1], h1, by rw [r1.len]; exact an.int⟩
  · cases h
theorem call_tuple_w (hK : X.K = T.K) : CallR X (.type "tuple") (rB1 T tupleW) := by
  intro pins s σ H xs us Q I r ⟨x, c, O, b1, a, w, e0, e, ra, h, an⟩
  unfold tupleW at h
  split at h
  · cases h
    obtain ⟨p, ys, e1, h1, r1⟩ := ra.lst
    exact call_tuple_of pins s σ H xs us Q I r ⟨p, ys, by rw [e0, e1], .inl ⟨.inl (.inl h1), an.tup e r1⟩⟩
  · cases h
    obtain ⟨p, ys, e1, h1, r1⟩ := ra.tup
    exact call_tuple_of pins s σ H xs us Q I r ⟨p, ys, by rw [e0, e1], .inr ⟨by rw [hK]; exact sqT_same hide_le h1, an.same rfl (.d (.tup h1 r1))⟩⟩
  · cases h
theorem call_list_w (hK : X.K = T.K) : CallR X (.type "list") (rB1 T listW) := by
  intro pins s σ H xs us Q I r ⟨x, c, O, b1, a, w, e0, e, ra, h, an⟩
  unfold listW at h
  split at h
  · cases h
    obtain ⟨p, ys, e1, h1, r1⟩ := ra.lst
    exact call_list_of pins s σ H xs us Q I r ⟨p, ys, by rw [e0, e1], .inl (.inl (.inl h1)), an.lst e r1⟩
  · cases h
    obtain ⟨p, ys, e1, h1, r1⟩ := ra.tup
    exact call_list_of pins s σ H xs us Q I r ⟨p, ys, by rw [e0, e1], .inr (by rw [hK]; exact sqT_same hide_le h1), an.lst e r1⟩
  · cases h
theorem call_int_w : CallR X (.type "int") (rB1 T intW) := by
  intro pins s σ H xs us Q I r ⟨x, c, O, b1, a, w, e0, e, ra, h, an⟩
  unfold intW at h
  split at h
  · cases h
    exact call_int1 pins s σ H xs us Q I r (.inl ⟨_, by rw [e0, ra.int], an.int⟩)
  · cases h
theorem call_sum_w (hc : X.calm = true) : CallR X (.builtin "sum") (rB1 T sumW) := by
  intro pins s σ H xs us Q I r ⟨x, c, O, b1, a, w, e0, e, ra, h, an⟩
  unfold sumW at h
  split at h
  · split at h
    · rename_i is hi
      cases h
      obtain ⟨p, ys, e1, h1, r1⟩ := ra.lst
      have e2 := r1.ints hi
      subst e2
      exact cr_sum hc pins s σ H xs us Q I r ⟨p, is, by rw [e0, e1], .inl (.inl h1), an.int⟩
    · cases h
  · cases h
theorem insI_perm (x : Int) : ∀ l : List Int, (insI x l).Perm (x :: l)
  | [] => .refl _
  | y :: ys => by
    unfold insI
    split
    · exact .refl _
    · exact ((insI_perm x ys).cons y).trans (.swap _ _ _)
theorem sortI_perm : ∀ l : List Int, (sortI l).Perm l
  | [] => .refl _
  | x :: xs => (insI_perm x (sortI xs)).trans ((sortI_perm xs).cons x)
theorem insI_sorted (x : Int) : ∀ l : List Int, l.Pairwise (· ≤ ·) → (insI x l).Pairwise (· ≤ ·)
  | [], _ => by simp [insI]
  | y :: ys, h => by
    unfold insI
    split
    · rename_i q
      refine List.pairwise_cons.mpr ⟨fun z hz => ?_, h⟩
      rcases List.mem_cons.mp hz with rfl | hz
      · exact q
      · exact Int.le_trans q ((List.pairwise_cons.mp h).1 z hz)
    · rename_i q
      refine List.pairwise_cons.mpr ⟨fun z hz => ?_, insI_sorted x ys (List.pairwise_cons.mp h).2⟩
      rcases List.mem_cons.mp ((insI_perm x ys).mem_iff.mp hz) with rfl | hz
      · omega
      · exact (List.pairwise_cons.mp h).1 z hz
theorem sortI_sorted : ∀ l : List Int, (sortI l).Pairwise (· ≤ ·)
  | [] => .nil
  | x :: xs => insI_sorted x _ (sortI_sorted xs)
theorem sorted_uniq : ∀ {l m : List Int}, l.Pairwise (· ≤ ·) → m.Pairwise (· ≤ ·) → l.Perm m → l = m
  | [], m, _, _, p => by simpa using p.symm
  | x :: xs, [], _, _, p => by simp at p
  | x :: xs, y :: ys, h, k, p => by
    have e : x = y := by
      have h1 := (List.pairwise_cons.mp h).1
      have k1 := (List.pairwise_cons.mp k).1
      have hy : y ∈ x :: xs := p.mem_iff.mpr List.mem_cons_self
      have hx : x ∈ y :: ys := p.mem_iff.mp List.mem_cons_self
      rcases List.mem_cons.mp hy with q | q
      · exact q.symm
      · rcases List.mem_cons.mp hx with q2 | q2
        · exact q2
        · have a1 := h1 y q
          have a2 := k1 x q2
          omega
    subst e
    rw [sorted_uniq (List.pairwise_cons.mp h).2 (List.pairwise_cons.mp k).2 ((List.perm_cons x).mp p)]
theorem sortI_eq {l m : List Int} (p : m.Perm l) (s : m.Pairwise (· ≤ ·)) : m = sortI l := sorted_uniq s (sortI_sorted l) (p.trans (sortI_perm l).symm)
theorem RDs.tups {K : Frag} {G : Hp} : ∀ {ds : List PyData} {vs : List V} {ts : List (List Int)}, RDs K G vs ds → tupsD ds = some ts →
    ∃ ks : List (Addr × List Int), vs = ks.map (fun p => V.ref p.1) ∧ ks.map (·.2) = ts ∧ ∀ p ∈ ks, SqT K G p.1 (p.2.map V.int)
  | [], _, _, h, e => by cases h; cases e; exact ⟨[], rfl, rfl, fun p hp => by simp at hp⟩
  | d :: ds, _, ts, h, e => by
    cases h with
    | cons h1 h2 =>
      cases h1 with
      | tup g1 g2 =>
        rename_i es
        unfold tupsD at e
        cases q1 : intsD es with
        | none => rw [q1] at e; cases e
        | some is =>
          cases q2 : tupsD ds with
          | none => rw [q1, q2] at e; cases e
          | some r =>
            rw [q1, q2] at e
            cases e
            obtain ⟨ks, e1, e2, e3⟩ := RDs.tups h2 q2
            rw [g2.ints q1] at g1
            refine ⟨(_, is) :: ks, by rw [List.map_cons, ← e1], by rw [List.map_cons, e2], fun p hp => ?_⟩
            rcases List.mem_cons.mp hp with rfl | hp
            · exact g1
            · exact e3 p hp
      | _ => exact absurd e (by unfold tupsD; simp)
theorem RDs.of_tups {K : Frag} {G : Hp} : ∀ {ks : List (Addr × List Int)}, (∀ p ∈ ks, SqT K G p.1 (p.2.map V.int)) → RDs K G (ks.map fun p => V.ref p.1) ((ks.map (·.2)).map tupI)
  | [], _ => .nil
  | p :: ks, h => .cons (.tup (h p List.mem_cons_self) (.of_ints _)) (RDs.of_tups fun q hq => h q (List.mem_cons_of_mem _ hq))
theorem noNil_ok : ∀ {ts : List (List Int)}, noNil ts = true → ∀ t ∈ ts, t ≠ []
  | [], _, t, ht => by simp at ht
  | t :: ts, h, u, hu => by
    have h : (!t.isEmpty && noNil ts) = true := h
    simp only [Bool.and_eq_true, Bool.not_eq_true'] at h
    rcases List.mem_cons.mp hu with rfl | hu
    · intro z; subst z; simp at h
    · exact noNil_ok h.2 u hu
theorem sorted_run (hc : X.calm = true) (hK : X.K = T.K) {p : Addr} {ys : List V} {ds : List PyData} {w : W} {pins : List (Addr × Obj)} {s : Shared} {σ : L2.St} {us : List Value} (e : At T c O H) (sq : SqL X.K H p ys ∨ SqT X.K H p ys) (r1 : RDs T.K (hide O H) ys ds) (h : sortedD ds = some w) (hl : ys.length ≤ sizeLine)
    (an : AnsF T c O H w Q) (I : Inv X pins σ H s) (r : Vals [V.ref p] us) : wpAny (model X.prog X.w) X.A (call (.builtin "sorted") us) (EP X pins σ Q) X.xe s := by
  unfold sortedD at h
  split at h
  · rename_i is hi
    cases h
    have e2 := r1.ints hi
    subst e2
    rw [List.length_map] at hl
    refine cr_sortedSI pins s σ H _ us Q I r ⟨p, is, rfl, sq, hl, fun ns' p' hp hs hn => ?_⟩
    rw [sortI_eq hp hs]
    exact an.lst e (.of_ints _) p' hn
  · split at h
    · rename_i ts ht
      obtain ⟨⟨hn, h3⟩, h⟩ := if_some h
      cases h
      obtain ⟨ks, e1, e2, e3⟩ := r1.tups ht
      subst e1
      rw [List.length_map] at hl
      refine cr_sortedST pins s σ H _ us Q I r ⟨p, ks, rfl, sq, fun q hq => by rw [hK]; exact sqT_same hide_le (e3 q hq), fun q hq => noNil_ok hn _ (e2 ▸ List.mem_map.mpr ⟨q, hq, rfl⟩), hl, fun L' p' hs hp hw hn => ?_⟩
      rw [e2] at hp
      rw [← sortL_eq hp hw] at an
      exact an.lst e (.of_tups fun q hq => e3 q (hs q hq)) p' hn
    · cases h
theorem call_sorted_w (hK : X.K = T.K) (hc : X.calm = true) : CallR X (.builtin "sorted") (rB1 T sortedW) := by
  intro pins s σ H xs us Q I r ⟨x, c, O, b1, a, w, e0, e, ra, h, an⟩
  unfold sortedW at h
  split at h
  · obtain ⟨p, ys, e1, h1, r1⟩ := ra.lst
    subst e1; subst e0
    obtain ⟨_, _, _, hz⟩ := I.list (show SqL X.K H p ys from .inl (.inl h1))
    exact sorted_run hc hK e (.inl (.inl (.inl h1))) r1 h hz an I r
  · obtain ⟨hl, h⟩ := if_some' h
    obtain ⟨p, ys, e1, h1, r1⟩ := ra.tup
    subst e1; subst e0
    exact sorted_run hc hK e (.inr (by rw [hK]; exact sqT_same hide_le h1)) r1 h (by rw [r1.len]; exact Nat.le_trans hl cap_le) an I r
  · split at h
    · rename_i is hi
      obtain ⟨h64, h⟩ := if_some h
      cases h
      obtain ⟨p, ys, e1, h1, r1⟩ := ra.dk
      refine call_sortedDI hc pins s σ H xs us Q I r ⟨p, ys, is, by rw [e0, e1], .inl h1, r1.keys hi, h64, fun ns' p' hp hs hn => ?_⟩
      rw [sortI_eq hp hs]
      exact an.lst e (.of_ints _) p' hn
    · cases h
  · cases h

/-! ### isinstance -/
def tyN : Ty → String
  | .int => "int"
  | .bool => "bool"
  | .str => "str"
  | .tuple => "tuple"
  | .list => "list"
def rIsi (T : Stc) (t : Ty) : List V → Hp → VK → Prop := fun xs H Q => ∃ x c O b1 a k, xs = [x, .ty (tyN t)] ∧ RB T c O H b1 x a ∧ isiW a t = some k ∧ Q (.bl k) H
theorem clsV_ty (t : Ty) : ClsV (.ty (tyN t)) (.type (tyN t)) := by
  cases t <;> first | exact rfl | exact ⟨_, rfl⟩ | constructor
theorem call_isi_w (t : Ty) (hK : X.K = T.K) : CallR X (.builtin "isinstance") (rIsi T t) := by
  intro pins s σ H xs us Q I r ⟨x, c, O, b1, a, k, e0, ra, h, q⟩
  subst e0
  have go : ∀ {u : String}, TyX X.K H x (.type u) → kitB u (tyN t) = some k → wpAny (model X.prog X.w) X.A (call (.builtin "isinstance") us) (EP X pins σ Q) X.xe s := fun hu hk =>
    call_isi pins s σ H [x, .ty (tyN t)] us Q I r ⟨x, .ty (tyN t), _, _, k, rfl, clsV_ty t, hu, kit_ty hk, q⟩
  unfold isiW at h
  split at h
  · cases h
    have ex : x = .non := by
      rcases ra with ra | ⟨_, _, _, _, _, _, o⟩
      · cases ra with | d ra => cases ra; rfl
      · cases o
    subst ex
    exact go (.base .non) (by cases t <;> decide +kernel)
  · cases h
    have ex := ra.bool
    subst ex
    exact go (.base (.bl _)) (by cases t <;> decide +kernel)
  · cases h
    have ex := ra.int
    subst ex
    exact go (.base (.int _)) (by cases t <;> decide +kernel)
  · cases h
    obtain ⟨z, ex⟩ : ∃ z, x = .str z := by
      rcases ra with ra | ⟨_, _, _, _, _, _, o⟩
      · cases ra with | d ra => cases ra; exact ⟨_, rfl⟩
      · cases o
    subst ex
    exact go (.base (.str _)) (by cases t <;> decide +kernel)
  · cases h
    obtain ⟨p, ys, e1, h1, r1⟩ := ra.tup
    subst e1
    rcases h1 with (h1 | ⟨o, h1⟩) | ⟨o, its, n, h1, h2, _⟩
    · exact go (.base (.tup (hide_le _ _ h1))) (by cases t <;> decide +kernel)
    · exact go (.fTuple (hide_le _ _ h1)) (by cases t <;> decide +kernel)
    · exact go (.kTuple (by rw [hK]; exact h1) h2) (by cases t <;> decide +kernel)
  · cases h
    obtain ⟨p, ys, e1, h1, r1⟩ := ra.lst
    subst e1
    exact go (.base (.lst h1)) (by cases t <;> decide +kernel)
  · cases h
end
end DS

set_option Elab.async false
set_option linter.all false
set_option maxRecDepth 100000
set_option maxHeartbeats 4000000
/-! DS5: what a def promises; what stands around; calls. -/
namespace DS
open PySem PySem.Spec PySem.SeqAt PyProof.Rows L2

/-! ### promises, with nothing being shown (repr) around -/
structure FnG (P : Program) (w : World) (K : Frag) (mg : Str → Option Value) (base : Heap) (k : Nat) (f : Addr) (fd : FuncData) (ps : List Str) (sp : Sp) : Prop where
  len : ∀ vs H Q E, sp vs H Q E → vs.length = ps.length
  run : ∀ (A : Around) (outer : List PySem.Env) (s : Shared) (H : Hp) (args : Args) (us : List Value) (vs : List V) (Q : VK) (E : XK), Room k A → A.guards = some [] → Env0 P w K mg base A outer s H →
    BindsTo s fd args (ps.zip us) → Vals vs us → sp vs H Q E → codeAny (model P w) A (.call (.ref f) args) (CR (L2.CX P w) outer P w H s Q E) s
theorem FnG.mono {P : Program} {w : World} {K : Frag} {mg : Str → Option Value} {base : Heap} {j k : Nat} {f : Addr} {fd : FuncData} {ps : List Str} {sp : Sp} (F : FnG P w K mg base j f fd ps sp) (h : j ≤ k) : FnG P w K mg base k f fd ps sp :=
  ⟨F.len, fun A outer s H args us vs Q E hr hg => F.run A outer s H args us vs Q E (hr.mono h) hg⟩
theorem FnG.imp {P : Program} {w : World} {K : Frag} {mg : Str → Option Value} {base : Heap} {k : Nat} {f : Addr} {fd : FuncData} {ps : List Str} {sp sp' : Sp} (F : FnG P w K mg base k f fd ps sp) (h : ∀ vs H Q E, sp' vs H Q E → sp vs H Q E) :
    FnG P w K mg base k f fd ps sp' :=
  ⟨fun vs H Q E q => F.len vs H Q E (h _ _ _ _ q), fun A outer s H args us vs Q E hr hg e0 hb hv hs => F.run A outer s H args us vs Q E hr hg e0 hb hv (h _ _ _ _ hs)⟩
theorem FnG.ok {P : Program} {w : World} {K : Frag} {mg : Str → Option Value} {base : Heap} {k : Nat} {f : Addr} {fd : FuncData} {ps : List Str} {sp : Sp} (F : FnOk P w K mg base (L2.CX P w) k f fd ps sp) : FnG P w K mg base k f fd ps sp :=
  ⟨F.len, fun A outer s H args us vs Q E hr _ => F.run A outer s H args us vs Q E hr⟩
def spM (T : Stc) (n : Nat) (F : List W → M W) : Sp := fun vs H Q E => vs.length = n ∧ ∃ c N O ws, c.sa ∈ O ∧ c.la ∈ O ∧ (∀ b ∈ O, ∃ o, H b = some o) ∧ StOk c N H ∧ RWs T.K T.fa c (hide O H) vs ws ∧
  (F ws).wp N (Fin T c O H false Q) (EX T E c O H)

/-- how the values of a call with names come to the parameters -/
def KwOk (K : Frag) (fd : FuncData) (ps : List Str) (np : Nat) (ks : List Str) (perm : List Nat) : Prop :=
  perm.length = ps.length ∧ ∀ (s : Shared) (us : List Value), K.In s.heap → us.length = np + ks.length → BindsTo s fd ⟨us.take np, ks.zip (us.drop np)⟩ (ps.zip (perm.map fun i => us.getD i .none))

def bnames : List Str := ["len", "tuple", "list", "sorted", "sum", "int", "range", "isinstance", "bool", "str", "enumerate", "zip", "reversed", "set", "dict", "repr", "ValueError"]
/-- the defs and constants of the text -/
structure TOk (T : Stc) (kw : List (Nat × Nat × List Str × List Nat)) : Prop where
  fns : ∀ (i : Nat) (x : Str), T.fn[i]? = some x → ∃ F n fd ps, T.fs[i]? = some F ∧ T.mg x = some (.ref (T.fa i)) ∧ PySem.W.keepIn T.K (.ref (T.fa i)) = true ∧ Binds T.K fd ps [] ∧ ps.length = n ∧
    FnG T.P T.w T.K T.mg T.base T.k (T.fa i) fd ps (spM T n F) ∧ (∀ ws N Q E, (F ws).wp N Q E → ws.length = n) ∧ ∀ q ∈ kw, q.1 = i → KwOk T.K fd ps q.2.1 q.2.2.1 q.2.2.2
  gls : ∀ (j : Nat) (x : Str), T.gn[j]? = some x → ∃ w u v, T.gs[j]? = some w ∧ T.mg x = some u ∧ RelV v u ∧ ∀ c G, RW T.K T.fa c G v w
  bn : ∀ x ∈ bnames, T.mg x = none
  ln : T.fn.length = T.fs.length

/-- the text's place in a def's body or a comprehension's block -/
structure XOk (T : Stc) (N : List Str) (sc : Scope) (F : Str → Bool) (Ex : XK) (X : Cx) : Prop where
  hP : X.prog = T.P
  hw : X.w = T.w
  hK : X.K = T.K
  hmg : X.mg = T.mg
  hbase : X.base = T.base
  hN : X.N = N
  hsc : X.env.scope = sc
  calm : X.calm = true
  nd : N.Nodup
  room : Room T.k X.A
  gd : X.A.guards = some []
  hfn : X.fn = F
  pas : Passes (L2.CX X.prog X.w) X Ex
theorem XOk.hu {T : Stc} {N : List Str} {sc : Scope} {F : Str → Bool} {Ex : XK} {X : Cx} (x : XOk T N sc F Ex X) : X.A.units + 65 < cLine := by have := x.room.un; omega

section
variable {X : Cx} {k : Nat} {f : Addr} {fd : FuncData} {ps ks : List Str} {sp : Sp} {E : XK} {x : Str} {p pos : Pos} {e : Expr} {es : List Expr} {t tk : TA} {kws : List Keyword}
/-- the callee runs -/
theorem run_fnG {pins : List (Addr × Obj)} {σ : L2.St} {H : Hp} {s : Shared} {Q : VK} {args : Args} {us : List Value} {vs : List V} (F : FnG X.prog X.w X.K X.mg X.base k f fd ps sp) (hr : Room k X.A) (hg : X.A.guards = some [])
    (hx : Passes (L2.CX X.prog X.w) X E) (hb : BindsTo s fd args (ps.zip us)) (I : Inv X pins σ H s) (r : Vals vs us) (h : sp vs H Q E) : wpAny (model X.prog X.w) X.A (call (.ref f) args.pos args.kw) (EP X pins σ Q) X.xe s := by
  refine wpAny_call (codeAny_mono (F.run X.A X.stack s H args us vs Q E hr hg I.env0 hb r h) fun r s' hq => ?_)
  match r, hq with
  | .error e, hq => exact hx pins σ H s e s' I hq
  | .ok (.ret u), hq => exact I.after hq
  | .ok .next, hq => exact False.elim hq
  | .ok .brk, hq => exact False.elim hq
  | .ok .cont, hq => exact False.elim hq
def tCG (sp : Sp) (E : XK) (t : TA) : TE := fun σ H Q => t σ H fun vs H1 => sp vs H1 Q E
theorem pe_cG (F : FnG X.prog X.w X.K X.mg X.base k f fd ps sp) (hr : Room k X.A) (hgd : X.A.guards = some []) (hg : Gl X x) (hm : X.mg x = some (.ref f)) (hk : PySem.W.keepIn X.K (.ref f) = true) (hb : Binds X.K fd ps [])
    (hx : Passes (L2.CX X.prog X.w) X E) (ha : PA X (e :: es) t) (hdb : (x == ("__debug__" : Str)) = false) (he : starEach (e :: es) X.env = (false, eval e X.env) :: starEach es X.env) (hpl : (backTo pos (starEach es X.env)).any (·.1) = false) :
    PE X (.Call (.Name x p) (e :: es) [] pos) (tCG sp E t) := ⟨fun pins s σ H Q I h => wpAny_Call_Name_kw (ld_glob I hg hm (PySem.W.callWith_K (h₀ := X.base) I.ok.mod.kin hk
      (thn (ha.run pos pins s σ H _ I h) fun us s1 ⟨vs, H1, I1, r, q⟩ => ⟨I1.kIn, by
        have hl : us.length = ps.length := by rw [← r.length]; exact F.len _ _ _ _ q
        have b := hb s1 us I1.kIn (by simpa using hl)
        rw [List.append_nil] at b
        exact run_fnG (args := ⟨us, []⟩) F hr hgd hx b I1 r q⟩) he hpl) hdb)⟩
theorem pe_cG0 (F : FnG X.prog X.w X.K X.mg X.base k f fd ps sp) (hr : Room k X.A) (hgd : X.A.guards = some []) (hg : Gl X x) (hm : X.mg x = some (.ref f)) (hk : PySem.W.keepIn X.K (.ref f) = true) (hb : Binds X.K fd ps [])
    (hx : Passes (L2.CX X.prog X.w) X E) (hdb : (x == ("__debug__" : Str)) = false) :
    PE X (.Call (.Name x p) [] [] pos) (tCG sp E tNil) := ⟨fun pins s σ H Q I h => wpAny_Call_Name_kw (ld_glob I hg hm (PySem.W.callWith_K0 I.kIn hk (by
        have hl : ps.length = 0 := (F.len _ _ _ _ h).symm
        have b := hb s [] I.kIn (by simpa using hl.symm)
        exact run_fnG (args := ⟨[], []⟩) (us := []) F hr hgd hx b I .nil h)) hdb)⟩
/-- a call of a name of the def's own that holds a def -/
def tCGL (i : Nat) (f : Addr) (sp : Sp) (E : XK) (t : TA) : TE := fun σ H Q => σ[i]? = some (some (.ref f)) ∧ t σ H fun vs H1 => sp vs H1 Q E
theorem pe_cGL {i : Nat} (F : FnG X.prog X.w X.K X.mg X.base k f fd ps sp) (hr : Room k X.A) (hgd : X.A.guards = some []) (hN : X.N[i]? = some x) (hv : Vis X.env.scope x) (hk : PySem.W.keepIn X.K (.ref f) = true) (hb : Binds X.K fd ps [])
    (hx : Passes (L2.CX X.prog X.w) X E) (ha : PA X (e :: es) t) (hdb : (x == ("__debug__" : Str)) = false) (hcd : (x == ("__classdict__" : Str)) = false) (he : starEach (e :: es) X.env = (false, eval e X.env) :: starEach es X.env)
    (hpl : (backTo pos (starEach es X.env)).any (·.1) = false) : PE X (.Call (.Name x p) (e :: es) [] pos) (tCGL i f sp E t) := by
  refine ⟨fun pins s σ H Q I h => ?_⟩
  obtain ⟨hs, ht⟩ := h
  have hv1 := (pe_var (pos := p) hN hv hdb hcd).run pins s σ H (fun v H1 => v = .ref f ∧ H1 = H) I ⟨.ref f, hs, rfl, rfl⟩
  refine wpAny_Call_Name_kw (thn hv1 fun u s1 hq => ?_)
  obtain ⟨v, H1, I1, r1, rfl, rfl⟩ := hq
  cases r1
  refine PySem.W.callWith_K (h₀ := X.base) I.ok.mod.kin hk (thn (ha.run pos pins s1 σ _ _ I1 ht) fun us s2 hq => ?_) he hpl
  obtain ⟨vs, H2, I2, r, q⟩ := hq
  have hl : us.length = ps.length := by rw [← r.length]; exact F.len _ _ _ _ q
  have b := hb s2 us I2.kIn (by simpa using hl)
  rw [List.append_nil] at b
  exact ⟨I2.kIn, run_fnG (args := ⟨us, []⟩) F hr hgd hx b I2 r q⟩
/-- with names -/
def tCGK (sp : Sp) (perm : List Nat) (np : Nat) (E : XK) (t tk : TA) : TE := fun σ H Q => t σ H fun vs H1 => tk σ H1 fun zs H2 => vs.length = np ∧ sp (perm.map fun i => (vs ++ zs).getD i .non) H2 Q E
theorem vals_getD {xs : List V} {us : List Value} (r : Vals xs us) (i : Nat) : RelV (xs.getD i .non) (us.getD i .none) := by
  cases h : xs[i]? with
  | none =>
    have h2 := r.none_of h
    rw [List.getD_eq_getElem?_getD, List.getD_eq_getElem?_getD, h, h2]
    rfl
  | some v =>
    obtain ⟨u, hu, ru⟩ := r.get h
    rw [List.getD_eq_getElem?_getD, List.getD_eq_getElem?_getD, h, hu]
    exact ru
theorem vals_perm {xs : List V} {us : List Value} (r : Vals xs us) : ∀ perm : List Nat, Vals (perm.map fun i => xs.getD i .non) (perm.map fun i => us.getD i .none)
  | [] => .nil
  | i :: is => .cons (vals_getD r i) (vals_perm r is)
theorem zip_take_drop {us ws : List Value} {np : Nat} (h : us.length = np) : (us ++ ws).take np = us ∧ (us ++ ws).drop np = ws := by
  subst h
  exact ⟨by simp, by simp⟩
theorem pe_cGK {np : Nat} {perm : List Nat} (F : FnG X.prog X.w X.K X.mg X.base k f fd ps sp) (hr : Room k X.A) (hgd : X.A.guards = some []) (hg : Gl X x) (hm : X.mg x = some (.ref f)) (hk : PySem.W.keepIn X.K (.ref f) = true)
    (hb : KwOk X.K fd ps np ks perm) (hx : Passes (L2.CX X.prog X.w) X E) (ha : PA X (e :: es) t) (hkw : PK X kws tk) (hall : (backToKw pos (keywordEach kws X.env)).all (·.1.isSome) = true) (hks : (backToKw pos (keywordEach kws X.env)).filterMap (·.1) = ks)
    (hlen : ∀ ws : List Value, ws.length = kws.length → ks.length = ws.length) (hdb : (x == ("__debug__" : Str)) = false) (he : starEach (e :: es) X.env = (false, eval e X.env) :: starEach es X.env)
    (hpl : ((backTo pos (starEach (e :: es) X.env)).any (·.1) || (backToKw pos (keywordEach kws X.env)).any (·.1.isNone)) = false) (hzl : ∀ σ H Q, tk σ H Q → tk σ H fun zs H' => zs.length = kws.length ∧ Q zs H') :
    PE X (.Call (.Name x p) (e :: es) kws pos) (tCGK sp perm np E t tk) := by
  refine ⟨fun pins s σ H Q I h => wpAny_Call_Name_kw (ld_glob I hg hm ?_ hdb)⟩
  refine PySem.W.callWith_KW (h₀ := X.base) I.ok.mod.kin hk hall (thn (ha.run pos pins s σ H _ I h) fun us s1 hq => ?_) hpl he
  obtain ⟨vs, H1, I1, r, q⟩ := hq
  refine thn (hkw.run pos pins s1 σ H1 _ I1 (hzl _ _ _ q)) fun ws s2 hq => ?_
  obtain ⟨zs, H2, I2, rz, hz, hn, q2⟩ := hq
  refine ⟨I2.kIn, ?_⟩
  rw [hks]
  have r2 := r.append rz
  have hu : us.length = np := by rw [← r.length]; exact hn
  have hw : ks.length = ws.length := hlen ws (by rw [← rz.length]; exact hz)
  have b := hb.2 s2 (us ++ ws) I2.kIn (by rw [List.length_append, hu, hw])
  obtain ⟨z1, z2⟩ := zip_take_drop (ws := ws) hu
  rw [z1, z2] at b
  exact run_fnG (args := ⟨us, ks.zip ws⟩) F hr hgd hx b I2 (vals_perm r2 perm) q2
theorem pe_cGK0 {perm : List Nat} (F : FnG X.prog X.w X.K X.mg X.base k f fd ps sp) (hr : Room k X.A) (hgd : X.A.guards = some []) (hg : Gl X x) (hm : X.mg x = some (.ref f)) (hk : PySem.W.keepIn X.K (.ref f) = true)
    (hb : KwOk X.K fd ps 0 ks perm) (hx : Passes (L2.CX X.prog X.w) X E) (hkw : PK X kws tk) (hall : (backToKw pos (keywordEach kws X.env)).all (·.1.isSome) = true) (hks : (backToKw pos (keywordEach kws X.env)).filterMap (·.1) = ks)
    (hlen : ∀ ws : List Value, ws.length = kws.length → ks.length = ws.length) (hdb : (x == ("__debug__" : Str)) = false)
    (hpl : ((backTo pos (starEach [] X.env)).any (·.1) || (backToKw pos (keywordEach kws X.env)).any (·.1.isNone)) = false) (hzl : ∀ σ H Q, tk σ H Q → tk σ H fun zs H' => zs.length = kws.length ∧ Q zs H') :
    PE X (.Call (.Name x p) [] kws pos) (tCGK sp perm 0 E tNil tk) := by
  refine ⟨fun pins s σ H Q I h => wpAny_Call_Name_kw (ld_glob I hg hm ?_ hdb)⟩
  have h : tk σ H fun zs H2 => ([] : List V).length = 0 ∧ sp (perm.map fun i => ([] ++ zs).getD i .non) H2 Q E := h
  refine PySem.W.callWith_KW0 (h₀ := X.base) I.ok.mod.kin hk hall (thn (hkw.run pos pins s σ H _ I (hzl _ _ _ h)) fun ws s2 hq => ?_) hpl
  obtain ⟨zs, H2, I2, rz, hz, hn, q2⟩ := hq
  refine ⟨I2.kIn, ?_⟩
  rw [hks]
  have hw : ks.length = ws.length := hlen ws (by rw [← rz.length]; exact hz)
  have b := hb.2 s2 ws I2.kIn (by rw [hw, Nat.zero_add])
  exact run_fnG (args := ⟨[], ks.zip ws⟩) F hr hgd hx b I2 (vals_perm rz perm) q2
end
end DS

set_option Elab.async false
set_option linter.all false
set_option autoImplicit false
set_option maxRecDepth 100000
set_option maxHeartbeats 4000000
/-! DS6: the text is the small language's (chk). -/
namespace DS
open PySem PySem.Spec PySem.SeqAt PyProof.Rows L2

structure Ct where
  N : List Str
  fn : List Str
  gn : List Str
  kw : List (Nat × Nat × List Str × List Nat)

def visB (sc : Scope) (x : Str) : Bool := match sc.names.lookup x with
  | some .local => true
  | some .cell => true
  | some .free => true
  | _ => false
theorem visB_ok {sc : Scope} {x : Str} (h : visB sc x = true) : Vis sc x := by
  unfold visB at h
  split at h
  · exact .inl (by assumption)
  · exact .inr (.inl (by assumption))
  · exact .inr (.inr (by assumption))
  · cases h
def locB (sc : Scope) (F : Str → Bool) (x : Str) : Bool := match sc.names.lookup x with
  | some .local => true
  | some .cell => F x
  | _ => false
theorem locB_ok {sc : Scope} {F : Str → Bool} {x : Str} (h : locB sc F x = true) : Loc sc x ∧ (F x = true ∨ sc.names.lookup x = some .local) := by
  unfold locB at h
  split at h
  · exact ⟨.inl (by assumption), .inr (by assumption)⟩
  · exact ⟨.inr (by assumption), .inl h⟩
  · cases h
def glB (sc : Scope) (x : Str) : Bool := decide (sc.names.lookup x = some .globalImplicit) && !(x == ("__debug__" : Str))
theorem glB_ok {sc : Scope} {x : Str} (h : glB sc x = true) : sc.names.lookup x = some .globalImplicit ∧ (x == ("__debug__" : Str)) = false := by
  unfold glB at h
  simpa using h
def nameB (ct : Ct) (sc : Scope) (i : Nat) (x : Str) : Bool := decide (ct.N[i]? = some x) && visB sc x && !(x == ("__debug__" : Str)) && !(x == ("__classdict__" : Str))
def star : Expr → Bool
  | .Starred _ _ => true
  | _ => false
theorem star_each {e : Expr} {es : List Expr} {env : PySem.Env} (h : star e = false) : starEach (e :: es) env = (false, eval e env) :: starEach es env := by
  cases e <;> first | rfl | cases h
theorem star_any {pos : Pos} {env : PySem.Env} : ∀ {es : List Expr}, (∀ e ∈ es, star e = false) → (backTo pos (starEach es env)).any (·.1) = false
  | [], _ => rfl
  | e :: es, h => by
    rw [star_each (h e List.mem_cons_self)]
    show (false || (backTo pos (starEach es env)).any (·.1)) = false
    rw [Bool.false_or]
    exact star_any fun x hx => h x (List.mem_cons_of_mem _ hx)
def tyX (sc : Scope) (t : Ty) : Expr → Bool
  | .Name x _ => decide (x = Str.ofString (tyN t)) && glB sc x
  | _ => false
def b1N : B1 → Str
  | .len => "len"
  | .tuple => "tuple"
  | .list => "list"
  | .sorted => "sorted"
  | .sum => "sum"
  | .int => "int"
  | .listRange => "list"
  | .tupRange => "tuple"
  | .sortedSet => "sorted"
  | .lenSet => "len"
def b1In : B1 → Option Str
  | .listRange => some "range"
  | .tupRange => some "range"
  | .sortedSet => some "set"
  | .lenSet => some "set"
  | _ => none
def isSl : Expr → Bool
  | .Slice _ _ _ _ => true
  | _ => false

mutual
def chkTg (ct : Ct) (sc : Scope) (F : Str → Bool) : Tg → Expr → Bool
  | .n i, pe => match pe with
    | .Name x _ => decide (ct.N[i]? = some x) && locB sc F x
    | _ => false
  | .t ts, pe => match pe with
    | .Tuple ps _ _ => chkTgs ct sc F ts ps
    | _ => false
def chkTgs (ct : Ct) (sc : Scope) (F : Str → Bool) : TgL → List Expr → Bool
  | .nil, ps => match ps with
    | [] => true
    | _ => false
  | .cons g gs, ps => match ps with
    | p :: ps => chkTg ct sc F g p && chkTgs ct sc F gs ps
    | [] => false
end
def ownOf (ct : Ct) : List Nat → List (Str × Nat)
  | [] => []
  | i :: is => (ct.N.getD i "", i) :: ownOf ct is
def kwNames : List Keyword → List Str
  | [] => []
  | ⟨some x, _, _⟩ :: r => x :: kwNames r
  | ⟨none, _, _⟩ :: r => kwNames r
def kwAll : List Keyword → Bool
  | [] => true
  | ⟨some _, _, _⟩ :: r => kwAll r
  | ⟨none, _, _⟩ :: _ => false
def kwEs : List Keyword → List Expr
  | [] => []
  | ⟨_, e, _⟩ :: r => e :: kwEs r
def isTup : Expr → Bool
  | .Tuple _ _ _ => true
  | _ => false
mutual
def chkE (ct : Ct) (sc : Scope) : E → Expr → Bool
  | .v i, pe => match pe with
    | .Name x _ => nameB ct sc i x
    | _ => false
  | .non, pe => match pe with
    | .Constant .none _ _ => true
    | _ => false
  | .bl b, pe => match pe with
    | .Constant (.bool c) _ _ => b == c
    | _ => false
  | .int i, pe => match pe with
    | .Constant (.int j) _ _ => decide (i = j)
    | _ => false
  | .str s, pe => match pe with
    | .Constant (.str z) _ _ => decide (s = z)
    | _ => false
  | .gl j, pe => match pe with
    | .Name x _ => decide (ct.gn[j]? = some x) && glB sc x
    | _ => false
  | .fn f, pe => match pe with
    | .Name x _ => decide (ct.fn[f]? = some x) && glB sc x
    | _ => false
  | .tup es, pe => match pe with
    | .Tuple ps _ _ => chkL ct sc es ps && decide (es.len ≤ 1000)
    | _ => false
  | .lst es, pe => match pe with
    | .List ps _ => chkL ct sc es ps && decide (es.len ≤ 1000)
    | _ => false
  | .dnew, pe => match pe with
    | .Dict [] [] _ => true
    | _ => false
  | .bin op a b, pe => match pe with
    | .BinOp x o y _ => decide (bopOf op = o) && chkE ct sc a x && chkE ct sc b y
    | _ => false
  | .neg a, pe => match pe with
    | .UnaryOp .USub x _ => chkE ct sc a x
    | _ => false
  | .cmp op a b, pe => match pe with
    | .Compare x [o] [y] _ => decide (cmpOpOf op = o) && chkE ct sc a x && chkE ct sc b y
    | _ => false
  | .chain p q a b c, pe => match pe with
    | .Compare x [o1, o2] [y, z] _ => decide (cmpOpOf p = o1) && decide (cmpOpOf q = o2) && chkE ct sc a x && chkE ct sc b y && chkE ct sc c z
    | _ => false
  | .isN a, pe => match pe with
    | .Compare x [.Is] [.Constant .none _ _] _ => chkE ct sc a x
    | _ => false
  | .notN a, pe => match pe with
    | .Compare x [.IsNot] [.Constant .none _ _] _ => chkE ct sc a x
    | _ => false
  | .bop conj es, pe => match pe with
    | .BoolOp o ps _ => decide (o = if conj = true then .And else .Or) && chkL ct sc es ps && !(ps.isEmpty)
    | _ => false
  | .not a, pe => match pe with
    | .UnaryOp .Not x _ => chkE ct sc a x
    | _ => false
  | .ite c a b, pe => match pe with
    | .IfExp z x y _ => chkE ct sc c z && chkE ct sc a x && chkE ct sc b y
    | _ => false
  | .ix a i, pe => match pe with
    | .Subscript x y _ => chkE ct sc a x && chkE ct sc i y && !(isSl y)
    | _ => false
  | .sl a lo hi, pe => match pe with
    | .Subscript x (.Slice l h none _) _ => chkE ct sc a x && (match l with
        | none => chkL ct sc lo []
        | some y => chkL ct sc lo [y]) && (match h with
        | none => chkL ct sc hi []
        | some y => chkL ct sc hi [y])
    | _ => false
  | .call f es, pe => match pe with
    | .Call (.Name x _) ps [] _ => decide (ct.fn[f]? = some x) && glB sc x && chkL ct sc es ps
    | _ => false
  | .callk f np ks perm es, pe => match pe with
    | .Call (.Name x _) ps kws _ => decide (ct.fn[f]? = some x) && glB sc x && decide ((f, np, ks, perm) ∈ ct.kw) && decide (kwNames kws = ks) && kwAll kws && decide (ps.length = np) && chkL ct sc es (ps ++ kwEs kws) && !(kws.isEmpty)
    | _ => false
  | .callv i es, pe => match pe with
    | .Call (.Name x _) ps [] _ => nameB ct sc i x && chkL ct sc es ps && !(ps.isEmpty)
    | _ => false
  | .b1 b a, pe => match pe with
    | .Call (.Name x _) [y] [] _ => decide (x = b1N b) && glB sc x && (match b1In b with
        | some n => (match y with
          | .Call (.Name z _) [u] [] _ => decide (z = n) && glB sc z && chkE ct sc a u
          | _ => false)
        | none => chkE ct sc a y)
    | _ => false
  | .isi a t, pe => match pe with
    | .Call (.Name x _) [y, z] [] _ => decide (x = "isinstance") && glB sc x && chkE ct sc a y && tyX sc t z
    | _ => false
  | .comp tg it cs elt, pe => match pe with
    | .ListComp pelt [⟨ptg, pit, ifs, a⟩] scope _ => decide (a = 0) && chkI ct sc it ptg pit && chkTg ct (relS scope sc) (fun x => scope.names.lookup x == some .cell) tg ptg && chkL ct (relS scope sc) cs ifs && decide (cs.len ≤ 1) &&
        chkE ct (relS scope sc) elt pelt && blkC ct.N sc scope (ownOf ct tg.is)
    | _ => false
def chkL (ct : Ct) (sc : Scope) : EL → List Expr → Bool
  | .nil, ps => match ps with
    | [] => true
    | _ => false
  | .cons e es, ps => match ps with
    | p :: ps => chkE ct sc e p && chkL ct sc es ps
    | _ => false
def chkI (ct : Ct) (sc : Scope) : It → Expr → Expr → Bool
  | .of a, _, pe => chkE ct sc a pe && !(star pe) && (match pe with
    | .Set _ _ _ => false
    | _ => true)
  | .rng1 a, _, pe => match pe with
    | .Call (.Name x _) [y] [] _ => decide (x = "range") && glB sc x && chkE ct sc a y
    | _ => false
  | .rng2 a b, _, pe => match pe with
    | .Call (.Name x _) [y, z] [] _ => decide (x = "range") && glB sc x && chkE ct sc a y && chkE ct sc b z
    | _ => false
  | .enum a, tg, pe => match pe with
    | .Call (.Name x _) [y] [] _ => decide (x = "enumerate") && glB sc x && chkE ct sc a y && isTup tg
    | _ => false
  | .zip a b, tg, pe => match pe with
    | .Call (.Name x _) [y, z] [] _ => decide (x = "zip") && glB sc x && chkE ct sc a y && chkE ct sc b z && isTup tg
    | _ => false
  | .rev a, _, pe => match pe with
    | .Call (.Name x _) [y] [] _ => decide (x = "reversed") && glB sc x && chkE ct sc a y
    | _ => false
end
/-- what is checked is no star -/
theorem chk_star {ct : Ct} {sc : Scope} {e : E} {pe : Expr} (h : chkE ct sc e pe = true) : star pe = false := by
  cases pe <;> first | rfl | (cases e <;> simp [chkE] at h)
theorem chkL_star {ct : Ct} {sc : Scope} : ∀ {es : EL} {ps : List Expr}, chkL ct sc es ps = true → ∀ p ∈ ps, star p = false
  | .nil, [], _, _, hp => by simp at hp
  | .nil, _ :: _, h, _, _ => by simp [chkL] at h
  | .cons _ _, [], h, _, _ => by simp [chkL] at h
  | .cons e es, p :: ps, h, q, hq => by
    simp only [chkL, Bool.and_eq_true] at h
    rcases List.mem_cons.mp hq with rfl | hq
    · exact chk_star h.1
    · exact chkL_star h.2 q hq
end DS

set_option Elab.async false
set_option linter.all false
set_option autoImplicit false
set_option maxRecDepth 100000
set_option maxHeartbeats 4000000
/-! DS7: the text does what the small language means: expressions, part by part. -/
namespace DS
open PySem PySem.Spec PySem.SeqAt PyProof.Rows L2

structure Snd (T : Stc) (Ex : XK) (X : Cx) (e : E) (pe : Expr) : Prop where
  pf : PE X pe (rdE T Ex false e)
  pt : PE X pe (rdE T Ex true e)
  ts : PT X pe (rdT T Ex e)
section
variable {T : Stc} {Ex : XK} {X : Cx} {e a b : E} {pe pa pb : Expr} {pos : Pos} {c : StA} {O Oi : List Addr} {H H1 B : Hp} {N n : Nat} {σ : L2.St} {r : Env} {Q : VK}
theorem EnvOk.at (env : EOk T c N Oi B O H σ r) : At T c O H := ⟨env.trk⟩
/-- the answer is told at the end -/
theorem fin_ans {w : W} (env : EOk T c n Oi B O H1 σ r) (f : Fr c H H1) {bw : Bool} (h : Fin T c O H bw Q w n) : Ans T c O H1 w Q := fun v H' s rw => h v H' (f.trans (.of s)) (env.st.same s) (.inl rw)
theorem fin_ret {w : W} (env : EOk T c n Oi B O H1 σ r) (f : Fr c H H1) {bw : Bool} {v : V} (h : Fin T c O H bw Q w n) (rb : RB T c O H1 bw v w) : Q v H1 := h v H1 f env.st rb
theorem wBool_some {x : W} {k : Bool} (h : wBool x = some k) : x = .d (.bool k) := by
  unfold wBool at h
  split at h
  · cases h; rfl
  · cases h
theorem wInt_some {x : W} {k : Int} (h : wInt x = some k) : x = .d (.int k) := by
  unfold wInt at h
  split at h
  · cases h; rfl
  · cases h
theorem Snd.plain (hb : ∀ r, evE T.fs T.gs r true e = evE T.fs T.gs r false e) (h : PE X pe (rdE T Ex false e)) (he : ∀ wh, isTrue pe X.env wh = (do let v ← wh; standAt pe.pos; holding [v] (truthy v))) : Snd T Ex X e pe where
  pf := h
  pt := PE.weak h fun σ H Q ⟨c, N, Oi, B, O, r, env, q⟩ => ⟨c, N, Oi, B, O, r, env, by
    rw [hb] at q
    exact M.wp_mono (fun w n k v H' f s rb => k v H' f s (.inl rb.plain)) (fun _ _ x => x) q⟩
  ts := PT.weak (pt_val h he) fun σ H Q ⟨c, N, Oi, B, O, r, env, q⟩ => ⟨c, N, Oi, B, O, r, env, by
    refine M.wp_mono (fun w n k v H' f s rb => ?_) (fun _ _ x => x) (M.wp_bind.mp q)
    obtain ⟨k2, e1, k3⟩ := opt_wp k
    rw [wBool_some e1] at rb
    exact ⟨k2, rb.bool, k3 H' f s⟩⟩

/-! ### names, constants -/
theorem s_v {i : Nat} {x : Str} (hN : X.N[i]? = some x) (hv : Vis X.env.scope x) (hd : (x == ("__debug__" : Str)) = false) (hcd : (x == ("__classdict__" : Str)) = false) : Snd T Ex X (.v i) (.Name x pos) := by
  have go : ∀ bw, PE X (.Name x pos) (rdE T Ex bw (.v i)) := fun bw => PE.weak (pe_var hN hv hd hcd) fun σ H Q ⟨c, N, Oi, B, O, r, env, q⟩ => by
    have q : (getN r bw i).wp N (Fin T c O H bw Q) (EX T Ex c O H) := q
    unfold getN at q
    split at q
    · rename_i w hw
      obtain ⟨v, h1, h2⟩ := env.sh i w hw
      exact ⟨v, h1, fin_ret env Fr.refl q (.inl h2)⟩
    · rename_i w hw
      split at q
      · rename_i hb
        obtain ⟨a, h1, h2, h3, h4, h5⟩ := env.ow i w hw
        exact ⟨_, h1, fin_ret env Fr.refl q (.inr ⟨hb, a, rfl, h2, fun z => h4 (z ▸ env.sO), fun z => h4 (z ▸ env.lO), h5⟩)⟩
      · exact q.elim
    · exact q.elim
  refine ⟨go false, go true, ?_⟩
  exact PT.weak (pt_val (go false)) fun σ H Q ⟨c, N, Oi, B, O, r, env, q⟩ => ⟨c, N, Oi, B, O, r, env, by
    refine M.wp_mono (fun w n k v H' f s rb => ?_) (fun _ _ x => x) (M.wp_bind.mp q)
    obtain ⟨k2, e1, k3⟩ := opt_wp k
    rw [wBool_some e1] at rb
    exact ⟨k2, rb.bool, k3 H' f s⟩⟩
theorem s_const {v : V} {w : W} (hv : ∀ c G, RW T.K T.fa c G v w) (he : ∀ r bw, evE T.fs T.gs r bw e = .ret w) (hp : PE X pe (tC v)) (ht : ∀ wh, isTrue pe X.env wh = (do let v ← wh; standAt pe.pos; holding [v] (truthy v))) : Snd T Ex X e pe :=
  .plain (fun r => by rw [he, he]) (PE.weak hp fun σ H Q ⟨c, N, Oi, B, O, r, env, q⟩ => by
    rw [he] at q
    exact fin_ret env Fr.refl q (.inl (hv _ _))) ht
/-! ### displays -/
theorem s_tup {es : EL} {ps : List Expr} {k : Nat} (h : PA X ps (rdL T Ex es)) (hl : es.len ≤ 1000) (hlen : ∀ r N Q E, (evL T.fs T.gs r es).wp N Q E → (evL T.fs T.gs r es).wp N (fun ws n => ws.length = es.len ∧ Q ws n) E) : Snd T Ex X (.tup es) (.Tuple ps k pos) :=
  .plain (fun _ => rfl) (PE.weak (pe_tup h) fun σ H Q ⟨c, N, Oi, B, O, r, env, q⟩ => by
    have q := M.wp_bind.mp q
    refine ⟨c, N, Oi, B, O, r, env, M.wp_mono ?_ (fun _ _ x => x) (hlen _ _ _ _ q)⟩
    intro ws n ⟨hn, q⟩ vs H1 f s rws
    have env1 := env.step f s
    cases hd : datas ws with
    | none => rw [hd] at q; exact q.elim
    | some ds =>
      rw [hd] at q
      have rd := rws.datas hd
      refine ⟨?_, (fin_ans env1 f q).tup env1.at rd⟩
      rw [rws.len, hn, sizeLine_eq]; omega) (by intro _; rfl)
theorem s_lst {es : EL} {ps : List Expr} (h : PA X ps (rdL T Ex es)) (hl : es.len ≤ 1000) (hlen : ∀ r N Q E, (evL T.fs T.gs r es).wp N Q E → (evL T.fs T.gs r es).wp N (fun ws n => ws.length = es.len ∧ Q ws n) E) : Snd T Ex X (.lst es) (.List ps pos) :=
  .plain (fun _ => rfl) (PE.weak (pe_lst h) fun σ H Q ⟨c, N, Oi, B, O, r, env, q⟩ => by
    have q := M.wp_bind.mp q
    refine ⟨c, N, Oi, B, O, r, env, M.wp_mono ?_ (fun _ _ x => x) (hlen _ _ _ _ q)⟩
    intro ws n ⟨hn, q⟩ vs H1 f s rws
    have env1 := env.step f s
    cases hd : datas ws with
    | none => rw [hd] at q; exact q.elim
    | some ds =>
      rw [hd] at q
      have rd := rws.datas hd
      refine ⟨?_, (fin_ans env1 f q).lst env1.at rd⟩
      rw [rws.len, hn, sizeLine_eq]; omega) (by intro _; rfl)
theorem evL_len {fs : Fns} {gs : List W} {r : Env} : ∀ {es : EL} {N : Nat} {Q : List W → Nat → Prop} {E : EXk}, (evL fs gs r es).wp N Q E → (evL fs gs r es).wp N (fun ws n => ws.length = es.len ∧ Q ws n) E
  | .nil, N, Q, E, h => by
    unfold evL at h ⊢
    exact ⟨rfl, h⟩
  | .cons e es, N, Q, E, h => by
    unfold evL at h ⊢
    refine M.wp_bind.mpr (M.wp_mono (fun w n k => ?_) (fun _ _ x => x) (M.wp_bind.mp h))
    refine M.wp_bind.mpr (M.wp_mono (fun ws n k => ?_) (fun _ _ x => x) (evL_len (M.wp_bind.mp k)))
    exact ⟨congrArg (· + 1) k.1, k.2⟩
theorem s_dnew : Snd T Ex X .dnew (.Dict [] [] pos) :=
  .plain (fun _ => rfl) (PE.weak pe_dnewK fun σ H Q ⟨c, N, Oi, B, O, r, env, q⟩ p hp => by
    have q : Fin T c O H false Q (.dK []) N := q
    exact fin_ans env Fr.refl q _ _ (same_new hp) (.dK (by rw [hide_out (env.fresh hp)]; exact upd_same) .nil)) (by intro _; rfl)
/-! ### arguments -/
theorem a_nil : PA X [] (rdL T Ex .nil) := PA.weak pa_nil fun σ H Q ⟨c, N, Oi, B, O, r, env, q⟩ => by
  have q : FinL T c O H Q [] N := q
  exact q [] H Fr.refl env.st .nil
theorem a_cons {es : EL} {p : Expr} {ps : List Expr} (h1 : PE X p (rdE T Ex false e)) (h2 : PA X ps (rdL T Ex es)) (hs : star p = false) : PA X (p :: ps) (rdL T Ex (.cons e es)) :=
  PA.weak (pa_cons h1 h2 (star_each hs)) fun σ H Q ⟨c, N, Oi, B, O, r, env, q⟩ => by
    unfold evL at q
    refine rd1 env q fun w n v H1 f1 env1 rb q1 => rd1L env1 q1 fun ws n2 vs H2 f2 env2 rws q2 => ?_
    have q2 : FinL T c O H Q (w :: ws) n2 := q2
    exact q2 (v :: vs) H2 (f1.trans f2) env2.st (.cons (rb.plain.mono (f2.hide env1.sO' env1.lO')) rws)

/-! ### operators -/
theorem s_bin {op : Bop} (hK : X.K = T.K) (ha : Snd T Ex X a pa) (hb : Snd T Ex X b pb) : Snd T Ex X (.bin op a b) (.BinOp pa (bopOf op) pb pos) :=
  .plain (fun _ => rfl) (PE.weak (pe_op (op_bin op hK) ha.pt hb.pt) fun σ H Q ⟨c, N, Oi, B, O, r, env, q⟩ => by
    unfold evE at q
    refine rd1 env q fun x n v H1 f1 env1 rb q1 => rd1 env1 q1 fun y n2 v2 H2 f2 env2 rb2 q2 => ?_
    obtain ⟨w, hw, q3⟩ := opt_wp q2
    exact ⟨c, O, true, true, x, y, w, env2.at, rb.step f2 env1.sO' env1.lO' env1.trk, rb2, hw, (fin_ans env2 (f1.trans f2) q3).f⟩) (by intro _; rfl)
theorem s_neg (ha : Snd T Ex X a pa) : Snd T Ex X (.neg a) (.UnaryOp .USub pa pos) :=
  .plain (fun _ => rfl) (PE.weak (pe_un un_neg ha.pf) fun σ H Q ⟨c, N, Oi, B, O, r, env, q⟩ => by
    unfold evE at q
    refine rd1 env q fun x n v H1 f1 env1 rb q1 => ?_
    obtain ⟨i, hi, q2⟩ := opt_wp (M.wp_bind.mp q1)
    rw [wInt_some hi] at rb
    exact ⟨i, rb.int, (fin_ans env1 f1 q2).int⟩) (by intro _; rfl)
theorem cmp_pair {op : Cop} {P : Hp → V → V → Prop} (env : EOk T c N Oi B O H σ r) {Qf : W → Nat → Prop} (q : (evE T.fs T.gs r false (.cmp op a b)).wp N Qf (EX T Ex c O H))
    (k : ∀ x y v v2 j n2 H2, Fr c H H2 → EOk T c n2 Oi B O H2 σ r → RB T c O H2 true v x → RB T c O H2 true v2 y → cmpW op x y = some j → Qf (.b j) n2 → P H2 v v2) : rdE T Ex true a σ H fun v H1 => rdE T Ex true b σ H1 fun v2 H2 => P H2 v v2 := by
  unfold evE at q
  refine rd1 env q fun x n v H1 f1 env1 rb q1 => rd1 env1 q1 fun y n2 v2 H2 f2 env2 rb2 q2 => ?_
  obtain ⟨j, hj, q3⟩ := opt_wp (M.wp_bind.mp q2)
  exact k x y v v2 j n2 H2 (f1.trans f2) env2 (rb.step f2 env1.sO' env1.lO' env1.trk) rb2 hj q3
theorem nomark_of {op : Cop} (h : ∀ es k p, pb ≠ .Set es k p) : behindInMarks (cmpOpOf op) pb = false := by
  cases pb <;> first | rfl | exact absurd rfl (h _ _ _)
theorem s_cmp {op : Cop} (hK : X.K = T.K) (hu : X.A.units + 65 < cLine) (ha : Snd T Ex X a pa) (hb : Snd T Ex X b pb) (hm : behindInMarks (cmpOpOf op) pb = false) : Snd T Ex X (.cmp op a b) (.Compare pa [cmpOpOf op] [pb] pos) where
  pf := PE.weak (pe_cmpR (op_cmp (T := T) op hK hu) ha.pt hb.pt hm) fun σ H Q ⟨c, N, Oi, B, O, r, env, q⟩ =>
    cmp_pair (P := fun H2 v v2 => rCmp T op v v2 H2 Q) env q fun x y v v2 j n2 H2 f env2 r1 r2 hj q3 => ⟨c, O, true, true, x, y, j, r1, r2, hj, (fin_ans env2 f q3).bool⟩
  pt := PE.weak (pe_cmpR (op_cmp (T := T) op hK hu) ha.pt hb.pt hm) fun σ H Q ⟨c, N, Oi, B, O, r, env, q⟩ =>
    cmp_pair (P := fun H2 v v2 => rCmp T op v v2 H2 Q) env q fun x y v v2 j n2 H2 f env2 r1 r2 hj q3 => ⟨c, O, true, true, x, y, j, r1, r2, hj, (fin_ans env2 f q3).bool⟩
  ts := PT.weak (pt_cmpR (op_cmp (T := T) op hK hu) ha.pt hb.pt hm) fun σ H Q ⟨c, N, Oi, B, O, r, env, q⟩ =>
    cmp_pair (P := fun H2 v v2 => rCmp T op v v2 H2 fun x H' => ∃ k, x = .bl k ∧ Q k H') env (M.wp_bind.mp q) fun x y v v2 j n2 H2 f env2 r1 r2 hj q3 =>
      ⟨c, O, true, true, x, y, j, r1, r2, hj, j, rfl, (show FinT c H Q j n2 from q3) H2 f env2.st⟩
end
end DS

set_option Elab.async false
set_option linter.all false
set_option autoImplicit false
set_option maxRecDepth 100000
set_option maxHeartbeats 4000000
/-! DS8: expressions, part by part (on). -/
namespace DS
open PySem PySem.Spec PySem.SeqAt PyProof.Rows L2
section
variable {T : Stc} {Ex : XK} {X : Cx} {e a b d : E} {pe pa pb pd : Expr} {pos p : Pos} {c : StA} {O Oi : List Addr} {H H1 B : Hp} {N n : Nat} {σ : L2.St} {r : Env} {Q : VK} {x : Str}
theorem rw_non {K : Frag} {fa : Nat → Addr} {G : Hp} {v : V} {w : W} (h : RW K fa c G v w) : decide (v = .non) = isNone w := by
  cases h with
  | d h => cases h <;> rfl
  | tok => rfl
  | fn _ => rfl
  | dK _ _ => rfl
  | dT _ _ => rfl
theorem s_isN {j : Nat} {p2 : Pos} (ha : Snd T Ex X a pa) : Snd T Ex X (.isN a) (.Compare pa [.Is] [.Constant .none j p2] pos) := by
  have key : ∀ σ H Q, rdE T Ex false (.isN a) σ H Q → tIsN (rdE T Ex false a) σ H Q := fun σ H Q ⟨c, N, Oi, B, O, r, env, q⟩ => by
    unfold evE at q
    refine rd1 env q fun w n v H1 f1 env1 rb q1 => ?_
    rw [rw_non rb.plain]
    exact (fin_ans env1 f1 q1).bool
  exact ⟨PE.weak (pe_cmp (pc_isN ha.pf)) key, PE.weak (pe_cmp (pc_isN ha.pf)) fun σ H Q ⟨c, N, Oi, B, O, r, env, q⟩ => key σ H Q ⟨c, N, Oi, B, O, r, env, M.wp_mono (fun w n k v H' f s rb => k v H' f s (.inl rb.plain)) (fun _ _ x => x) q⟩,
    PT.weak (pt_cmp (pc_isN ha.pf)) fun σ H Q ⟨c, N, Oi, B, O, r, env, q⟩ => key σ H _ ⟨c, N, Oi, B, O, r, env, M.wp_mono (fun w n k v H' f s rb => by
      obtain ⟨k2, e1, k3⟩ := opt_wp k
      rw [wBool_some e1] at rb
      exact ⟨k2, rb.bool, k3 H' f s⟩) (fun _ _ x => x) (M.wp_bind.mp q)⟩⟩
theorem s_notN {j : Nat} {p2 : Pos} (ha : Snd T Ex X a pa) : Snd T Ex X (.notN a) (.Compare pa [.IsNot] [.Constant .none j p2] pos) := by
  have key : ∀ σ H Q, rdE T Ex false (.notN a) σ H Q → tNotN (rdE T Ex false a) σ H Q := fun σ H Q ⟨c, N, Oi, B, O, r, env, q⟩ => by
    unfold evE at q
    refine rd1 env q fun w n v H1 f1 env1 rb q1 => ?_
    rw [rw_non rb.plain]
    exact (fin_ans env1 f1 q1).bool
  exact ⟨PE.weak (pe_cmp (pc_notN ha.pf)) key, PE.weak (pe_cmp (pc_notN ha.pf)) fun σ H Q ⟨c, N, Oi, B, O, r, env, q⟩ => key σ H Q ⟨c, N, Oi, B, O, r, env, M.wp_mono (fun w n k v H' f s rb => k v H' f s (.inl rb.plain)) (fun _ _ x => x) q⟩,
    PT.weak (pt_cmp (pc_notN ha.pf)) fun σ H Q ⟨c, N, Oi, B, O, r, env, q⟩ => key σ H _ ⟨c, N, Oi, B, O, r, env, M.wp_mono (fun w n k v H' f s rb => by
      obtain ⟨k2, e1, k3⟩ := opt_wp k
      rw [wBool_some e1] at rb
      exact ⟨k2, rb.bool, k3 H' f s⟩) (fun _ _ x => x) (M.wp_bind.mp q)⟩⟩
theorem chain_pair {p q : Cop} {P1 : VK} {Pq : Hp → V → V → Prop} (env : EOk T c N Oi B O H σ r) {Qf : W → Nat → Prop} (h : (evE T.fs T.gs r false (.chain p q a b d)).wp N Qf (EX T Ex c O H))
    (k1 : ∀ n2 H2, Fr c H H2 → EOk T c n2 Oi B O H2 σ r → Qf (.b false) n2 → P1 (.bl false) H2) (k2 : ∀ y z v2 v3 j n3 H3, Fr c H H3 → EOk T c n3 Oi B O H3 σ r → RB T c O H3 false v2 y → RB T c O H3 false v3 z → cmpW q y z = some j → Qf (.b j) n3 → Pq H3 v2 v3) :
    rdE T Ex false a σ H fun v H1 => rdE T Ex false b σ H1 fun v2 H2 => rCmp T p v v2 H2 fun z H3 => ∃ k, z = .bl k ∧ (if k = true then rdE T Ex false d σ H3 fun v3 H4 => Pq H4 v2 v3 else P1 (.bl false) H3) := by
  unfold evE at h
  refine rd1 env h fun x n v H1 f1 env1 rb q1 => rd1 env1 q1 fun y n2 v2 H2 f2 env2 rb2 q2 => ?_
  obtain ⟨j, hj, q3⟩ := opt_wp (M.wp_bind.mp q2)
  refine ⟨c, O, false, false, x, y, j, rb.step f2 env1.sO' env1.lO' env1.trk, rb2, hj, j, rfl, ?_⟩
  cases j with
  | false =>
    rw [if_neg Bool.false_ne_true] at q3 ⊢
    exact k1 n2 H2 (f1.trans f2) env2 q3
  | true =>
    rw [if_pos rfl] at q3 ⊢
    refine rd1 env2 q3 fun z n3 v3 H3 f3 env3 rb3 q4 => ?_
    obtain ⟨j2, hj2, q5⟩ := opt_wp (M.wp_bind.mp q4)
    exact k2 y z v2 v3 j2 n3 H3 ((f1.trans f2).trans f3) env3 (rb2.step f3 env2.sO' env2.lO' env2.trk) rb3 hj2 q5
theorem s_chain {p q : Cop} (hK : X.K = T.K) (hu : X.A.units + 65 < cLine) (ha : Snd T Ex X a pa) (hb : Snd T Ex X b pb) (hd : Snd T Ex X d pd) (hp1 : behindInMarks (cmpOpOf p) pb = false) (hp2 : behindInMarks (cmpOpOf q) pd = false)
    (hc : PE X (.Compare pa [cmpOpOf p, cmpOpOf q] [pb, pd] pos) (tChain (rCmp T p) (rCmp T q) (rdE T Ex false a) (rdE T Ex false b) (rdE T Ex false d)))
    (ht : PT X (.Compare pa [cmpOpOf p, cmpOpOf q] [pb, pd] pos) (tTest (tChain (rCmp T p) (rCmp T q) (rdE T Ex false a) (rdE T Ex false b) (rdE T Ex false d)))) : Snd T Ex X (.chain p q a b d) (.Compare pa [cmpOpOf p, cmpOpOf q] [pb, pd] pos) where
  pf := PE.weak hc fun σ H Q ⟨c, N, Oi, B, O, r, env, h⟩ => chain_pair (P1 := Q) (Pq := fun H3 v2 v3 => rCmp T q v2 v3 H3 Q) env h (fun n2 H2 f e q => (fin_ans e f q).bool) fun y z v2 v3 j n3 H3 f e r1 r2 hj q => ⟨_, O, false, false, y, z, j, r1, r2, hj, (fin_ans e f q).bool⟩
  pt := PE.weak hc fun σ H Q ⟨c, N, Oi, B, O, r, env, h⟩ => chain_pair (P1 := Q) (Pq := fun H3 v2 v3 => rCmp T q v2 v3 H3 Q) env h (fun n2 H2 f e q => (fin_ans e f q).bool) fun y z v2 v3 j n3 H3 f e r1 r2 hj q => ⟨_, O, false, false, y, z, j, r1, r2, hj, (fin_ans e f q).bool⟩
  ts := PT.weak ht fun σ H Q ⟨c, N, Oi, B, O, r, env, h⟩ => chain_pair (P1 := fun x H' => ∃ k, x = .bl k ∧ Q k H') (Pq := fun H3 v2 v3 => rCmp T q v2 v3 H3 fun x H' => ∃ k, x = .bl k ∧ Q k H') env (M.wp_bind.mp h)
    (fun n2 H2 f e q => ⟨false, rfl, (show FinT c H Q false n2 from q) H2 f e.st⟩) fun y z v2 v3 j n3 H3 f e r1 r2 hj q => ⟨_, O, false, false, y, z, j, r1, r2, hj, j, rfl, (show FinT c H Q j n3 from q) H3 f e.st⟩

/-! ### not, and, or, if else -/
theorem s_not (ha : Snd T Ex X a pa) : Snd T Ex X (.not a) (.UnaryOp .Not pa pos) := by
  have key : ∀ {bw σ H Q}, rdE T Ex bw (.not a) σ H Q → tNotV (rdE T Ex false a) σ H Q := fun {bw σ H Q} ⟨c, N, Oi, B, O, r, env, q⟩ => by
    unfold evE at q
    refine rd1 env q fun w n v H1 f1 env1 rb q1 => ?_
    obtain ⟨k, hk, q2⟩ := opt_wp (M.wp_bind.mp q1)
    rw [wBool_some hk] at rb
    exact ⟨k, rb.bool, (fin_ans env1 f1 q2).bool⟩
  refine ⟨PE.weak (pe_not ha.pf) fun σ H Q h => key h, PE.weak (pe_not ha.pf) fun σ H Q h => key h, PT.weak (pt_not ha.ts) fun σ H Q ⟨c, N, Oi, B, O, r, env, q⟩ => ?_⟩
  unfold evE at q
  rw [M.bind_assoc] at q
  refine rd1T (f := fun k => (M.ret (W.b (!k))).bind fun x => opt (wBool x)) env (by
    have e : (fun x => ((opt (wBool x)).bind fun k => M.ret (W.b (!k))).bind fun x => opt (wBool x)) = fun x => (opt (wBool x)).bind fun k => (M.ret (W.b (!k))).bind fun x => opt (wBool x) := by
      funext x; rw [M.bind_assoc]
    rw [← e]; exact q) fun k n H1 f1 env1 q1 => ?_
  have q1 : FinT c H Q (!k) n := q1
  exact q1 H1 f1 env1.st
theorem s_ite (hc : Snd T Ex X d pd) (ha : Snd T Ex X a pa) (hb : Snd T Ex X b pb) : Snd T Ex X (.ite d a b) (.IfExp pd pa pb pos) := by
  have key : ∀ {bw σ H Q}, rdE T Ex bw (.ite d a b) σ H Q → tIf (rdT T Ex d) (rdE T Ex false a) (rdE T Ex false b) σ H Q := fun {bw σ H Q} ⟨c, N, Oi, B, O, r, env, q⟩ => by
    unfold evE at q
    refine rd1T env q fun k n H1 f1 env1 q1 => ?_
    cases k with
    | true =>
      rw [if_pos rfl] at q1 ⊢
      exact ⟨c, n, Oi, B, O, r, env1, M.wp_mono (fun w n k v H' f s rb => k v H' (f1.trans f) s (.inl rb.plain)) (fun x n h => h) q1⟩
    | false =>
      rw [if_neg Bool.false_ne_true] at q1 ⊢
      exact ⟨c, n, Oi, B, O, r, env1, M.wp_mono (fun w n k v H' f s rb => k v H' (f1.trans f) s (.inl rb.plain)) (fun x n h => h) q1⟩
  refine ⟨PE.weak (pe_ifExp hc.ts ha.pf hb.pf) fun σ H Q h => key h, PE.weak (pe_ifExp hc.ts ha.pf hb.pf) fun σ H Q h => key h, ?_⟩
  refine ⟨fun pins s σ H Q I ⟨c, N, Oi, B, O, r, env, q⟩ => isTrue_IfExp ?_⟩
  unfold evE at q
  rw [M.bind_assoc] at q
  have q : ((evE T.fs T.gs r false d).bind fun x => (opt (wBool x)).bind fun k => (if k = true then evE T.fs T.gs r false a else evE T.fs T.gs r false b).bind fun x => opt (wBool x)).wp N (FinT c H Q) (EX T Ex c O H) := by
    have e : (fun x => ((opt (wBool x)).bind fun k => if k = true then evE T.fs T.gs r false a else evE T.fs T.gs r false b).bind fun x => opt (wBool x)) = fun x => (opt (wBool x)).bind fun k => (if k = true then evE T.fs T.gs r false a else evE T.fs T.gs r false b).bind fun x => opt (wBool x) := by
      funext x; rw [M.bind_assoc]
    rw [← e]; exact q
  have h1 : rdT T Ex d σ H fun k H1 => if k = true then rdT T Ex a σ H1 Q else rdT T Ex b σ H1 Q := rd1T env q fun k n H1 f1 env1 q1 => by
    cases k with
    | true =>
      rw [if_pos rfl] at q1 ⊢
      exact ⟨c, n, Oi, B, O, r, env1, M.wp_mono (fun w n k H' f s => k H' (f1.trans f) s) (fun x n h => h) q1⟩
    | false =>
      rw [if_neg Bool.false_ne_true] at q1 ⊢
      exact ⟨c, n, Oi, B, O, r, env1, M.wp_mono (fun w n k H' f s => k H' (f1.trans f) s) (fun x n h => h) q1⟩
  refine thn (hc.ts.run pins s σ H _ I h1) fun k s1 ⟨H1, I1, q1⟩ => ?_
  cases k with
  | true => exact ha.ts.run pins s1 σ H1 Q I1 q1
  | false => exact hb.ts.run pins s1 σ H1 Q I1 q1
end
end DS

set_option Elab.async false
set_option linter.all false
set_option autoImplicit false
set_option maxRecDepth 100000
set_option maxHeartbeats 4000000
/-! DS9: and, or; subscripts; calls. -/
namespace DS
open PySem PySem.Spec PySem.SeqAt PyProof.Rows L2
inductive SndL (T : Stc) (Ex : XK) (X : Cx) : EL → List Expr → Prop
  | nil : SndL T Ex X .nil []
  | cons {e : E} {p : Expr} {es : EL} {ps : List Expr} : Snd T Ex X e p → star p = false → SndL T Ex X es ps → SndL T Ex X (.cons e es) (p :: ps)
section
variable {T : Stc} {Ex : XK} {X : Cx} {e a b d : E} {es : EL} {ps : List Expr} {pe pa pb pd : Expr} {pos p : Pos} {c : StA} {O Oi : List Addr} {H H1 B : Hp} {N n : Nat} {σ : L2.St} {r : Env} {Q : VK} {x : Str}
theorem SndL.toPA : ∀ {es : EL} {ps : List Expr}, SndL T Ex X es ps → PA X ps (rdL T Ex es)
  | _, _, .nil => a_nil
  | _, _, .cons h s t => a_cons h.pf t.toPA s
theorem SndL.star : ∀ {es : EL} {ps : List Expr}, SndL T Ex X es ps → ∀ p ∈ ps, DS.star p = false
  | _, _, .nil, _, hp => by simp at hp
  | _, _, .cons _ s t, q, hq => by
    rcases List.mem_cons.mp hq with rfl | hq
    · exact s
    · exact t.star q hq
theorem SndL.len : ∀ {es : EL} {ps : List Expr}, SndL T Ex X es ps → ps.length = es.len
  | _, _, .nil => rfl
  | _, _, .cons _ _ t => congrArg (· + 1) t.len
def bopO (conj : Bool) : BoolOp := if conj = true then .And else .Or
def rdB (T : Stc) (Ex : XK) (conj : Bool) (es : EL) : TE := fun σ H Q => ∃ c N Oi B O r, EOk T c N Oi B O H σ r ∧ (evB T.fs T.gs r conj es).wp N (Fin T c O H false Q) (EX T Ex c O H)
def rdBT (T : Stc) (Ex : XK) (conj : Bool) (es : EL) : TT := fun σ H Q => ∃ c N Oi B O r, EOk T c N Oi B O H σ r ∧ ((evB T.fs T.gs r conj es).bind fun x => opt (wBool x)).wp N (FinT c H Q) (EX T Ex c O H)
theorem b_pe (conj : Bool) : ∀ {es : EL} {ps : List Expr} {e : E} {p : Expr}, SndL T Ex X (.cons e es) (p :: ps) → PE X (.BoolOp (bopO conj) (p :: ps) pos) (rdB T Ex conj (.cons e es))
  | .nil, [], e, p, .cons h _ .nil => PE.weak (pe_one h.pf) fun σ H Q ⟨c, N, Oi, B, O, r, env, q⟩ => ⟨c, N, Oi, B, O, r, env, by unfold evB at q; exact q⟩
  | .cons e2 es2, p2 :: ps2, e, p, .cons h _ t => by
    have ih := b_pe conj t
    have key : ∀ σ H Q, rdB T Ex conj (.cons e (.cons e2 es2)) σ H Q → rdE T Ex false e σ H fun x H1 => ∃ c, x = .bl c ∧ if c = conj then rdB T Ex conj (.cons e2 es2) σ H1 Q else Q (.bl (!conj)) H1 := fun σ H Q ⟨c, N, Oi, B, O, r, env, q⟩ => by
      unfold evB at q
      refine rd1 env q fun w n v H1 f1 env1 rb q1 => ?_
      obtain ⟨k, hk, q2⟩ := opt_wp (M.wp_bind.mp q1)
      rw [wBool_some hk] at rb
      refine ⟨k, rb.bool, ?_⟩
      by_cases hc : k = conj
      · rw [if_pos hc] at q2 ⊢
        exact ⟨c, n, Oi, B, O, r, env1, M.wp_mono (fun w n h => h.step f1) (fun x n h => h) q2⟩
      · rw [if_neg hc] at q2 ⊢
        exact (fin_ans env1 f1 q2).bool
    cases conj with
    | true => exact PE.weak (pe_and h.pf ih) fun σ H Q h => key σ H Q h
    | false =>
      refine PE.weak (pe_or h.pf ih) fun σ H Q hh => ?_
      obtain ⟨c, N, Oi, B, O, r, env, q⟩ := key σ H Q hh
      refine ⟨c, N, Oi, B, O, r, env, M.wp_mono (fun w n k v H' f s rb => ?_) (fun _ _ x => x) q⟩
      obtain ⟨k2, e1, k3⟩ := k v H' f s rb
      refine ⟨k2, e1, ?_⟩
      cases k2 with
      | true => exact k3
      | false => exact k3
theorem b_pw (conj : Bool) : ∀ {es : EL} {ps : List Expr} {e : E} {p : Expr}, SndL T Ex X (.cons e es) (p :: ps) → PW X (.BoolOp (bopO conj) (p :: ps) pos) (rdBT T Ex conj (.cons e es))
  | .nil, [], e, p, .cons h _ .nil => by
    have key : ∀ σ H Q, rdBT T Ex conj (.cons e .nil) σ H Q → rdT T Ex e σ H Q := fun σ H Q ⟨c, N, Oi, B, O, r, env, q⟩ => ⟨c, N, Oi, B, O, r, env, by unfold evB at q; exact q⟩
    cases conj with
    | true => exact PW.weak (pw_and1 h.ts) key
    | false => exact PW.weak (pw_or1 h.ts) key
  | .cons e2 es2, p2 :: ps2, e, p, .cons h _ t => by
    have ih := b_pw conj t
    have key : ∀ σ H Q, rdBT T Ex conj (.cons e (.cons e2 es2)) σ H Q → rdT T Ex e σ H fun c H1 => if c = conj then rdBT T Ex conj (.cons e2 es2) σ H1 Q else Q (!conj) H1 := fun σ H Q ⟨c, N, Oi, B, O, r, env, q⟩ => by
      unfold evB at q
      rw [M.bind_assoc] at q
      have q : ((evE T.fs T.gs r false e).bind fun x => (opt (wBool x)).bind fun k => (if k = conj then evB T.fs T.gs r conj (.cons e2 es2) else .ret (.b (!conj))).bind fun x => opt (wBool x)).wp N (FinT c H Q) (EX T Ex c O H) := by
        have e0 : (fun x => ((opt (wBool x)).bind fun k => if k = conj then evB T.fs T.gs r conj (.cons e2 es2) else .ret (.b (!conj))).bind fun x => opt (wBool x)) = fun x => (opt (wBool x)).bind fun k => (if k = conj then evB T.fs T.gs r conj (.cons e2 es2) else .ret (.b (!conj))).bind fun x => opt (wBool x) := by
          funext x; rw [M.bind_assoc]
        rw [← e0]; exact q
      refine rd1T env q fun k n H1 f1 env1 q1 => ?_
      by_cases hc : k = conj
      · rw [if_pos hc] at q1 ⊢
        exact ⟨c, n, Oi, B, O, r, env1, M.wp_mono (fun w n k H' f s => k H' (f1.trans f) s) (fun x n h => h) q1⟩
      · rw [if_neg hc] at q1 ⊢
        have q1 : FinT c H Q (!conj) n := q1
        exact q1 H1 f1 env1.st
    cases conj with
    | true => exact PW.weak (pw_and h.ts ih) key
    | false =>
      refine PW.weak (pw_or h.ts ih) fun σ H Q hh => ?_
      obtain ⟨c, N, Oi, B, O, r, env, q⟩ := key σ H Q hh
      refine ⟨c, N, Oi, B, O, r, env, M.wp_mono (fun k n q H' f s => ?_) (fun _ _ x => x) q⟩
      have q2 := q H' f s
      cases k with
      | true => exact q2
      | false => exact q2
theorem s_bop {conj : Bool} (h : SndL T Ex X es ps) (hne : es ≠ .nil) : Snd T Ex X (.bop conj es) (.BoolOp (bopO conj) ps pos) := by
  cases h with
  | nil => exact absurd rfl hne
  | cons h s t =>
    exact ⟨PE.weak (b_pe conj (.cons h s t)) fun σ H Q ⟨c, N, Oi, B, O, r, env, q⟩ => ⟨c, N, Oi, B, O, r, env, by unfold evE at q; exact q⟩,
      PE.weak (b_pe conj (.cons h s t)) fun σ H Q ⟨c, N, Oi, B, O, r, env, q⟩ => ⟨c, N, Oi, B, O, r, env, by unfold evE at q; exact M.wp_mono (fun w n k v H' f s rb => k v H' f s (.inl rb.plain)) (fun _ _ x => x) q⟩,
      PT.weak (b_pw conj (.cons h s t)).pt fun σ H Q ⟨c, N, Oi, B, O, r, env, q⟩ => ⟨c, N, Oi, B, O, r, env, by unfold evE at q; exact q⟩⟩

/-! ### subscripts -/
theorem plain_ix (h : isSl pe = false) : PlainIx pe := by
  intro o i
  cases pe <;> first | rfl | cases h
theorem s_ix (hK : X.K = T.K) (hu : X.A.units + 65 < cLine) (ha : Snd T Ex X a pa) (hb : Snd T Ex X b pb) (hs : isSl pb = false) : Snd T Ex X (.ix a b) (.Subscript pa pb pos) :=
  .plain (fun _ => rfl) (PE.weak (pe_ix (ix_w (T := T) hK hu) ha.pt hb.pf (plain_ix hs)) fun σ H Q ⟨c, N, Oi, B, O, r, env, q⟩ => by
    unfold evE at q
    refine rd1 env q fun x n v H1 f1 env1 rb q1 => rd1 env1 q1 fun y n2 v2 H2 f2 env2 rb2 q2 => ?_
    obtain ⟨w, hw, q3⟩ := opt_wp q2
    exact ⟨c, O, true, false, x, y, w, env2.at, rb.step f2 env1.sO' env1.lO' env1.trk, rb2, hw, fin_ans env2 (f1.trans f2) q3⟩) (by intro _; rfl)
/-- a bound -/
def rdO (T : Stc) (Ex : XK) (es : EL) : TO := fun σ H Q => ∃ c N Oi B O r, EOk T c N Oi B O H σ r ∧ (evO T.fs T.gs r es).wp N (fun o n => ∀ H', Fr c H H' → StOk c n H' → Q o H') (EX T Ex c O H)
theorem PO.weak {o : Option Expr} {t t' : TO} (h : PO X o t) (i : ∀ σ H Q, t' σ H Q → t σ H Q) : PO X o t' := ⟨fun pins s σ H Q I q => h.run pins s σ H Q I (i σ H Q q)⟩
theorem o_none : PO X none (rdO T Ex .nil) := PO.weak po_none fun σ H Q ⟨c, N, Oi, B, O, r, env, q⟩ => by
  unfold evO at q
  have q : ∀ H', Fr c H H' → StOk c N H' → Q none H' := q
  exact q H Fr.refl env.st
theorem o_some (h : Snd T Ex X e pe) : PO X (some pe) (rdO T Ex (.cons e es)) := PO.weak (po_some h.pf) fun σ H Q ⟨c, N, Oi, B, O, r, env, q⟩ => by
  unfold evO at q
  refine rd1 env q fun x n v H1 f1 env1 rb q1 => ?_
  obtain ⟨i, hi, q2⟩ := opt_wp (M.wp_bind.mp q1)
  rw [wInt_some hi] at rb
  have q2 : ∀ H', Fr c H H' → StOk c n H' → Q (some i) H' := q2
  exact ⟨i, rb.int, q2 H1 f1 env1.st⟩
theorem s_sl {lo hi : EL} {l h : Option Expr} {p2 : Pos} (hK : X.K = T.K) (ha : Snd T Ex X a pa) (hl : PO X l (rdO T Ex lo)) (hh : PO X h (rdO T Ex hi)) : Snd T Ex X (.sl a lo hi) (.Subscript pa (.Slice l h none p2) pos) :=
  .plain (fun _ => rfl) (PE.weak (pe_slice (sl_w (T := T) hK) ha.pt hl hh) fun σ H Q ⟨c, N, Oi, B, O, r, env, q⟩ => by
    unfold evE at q
    refine rd1 env q fun x n v H1 f1 env1 rb q1 => ?_
    refine ⟨c, n, Oi, B, O, r, env1, M.wp_mono (fun o n2 k H2 f2 s2 => ?_) (fun _ _ x => x) (M.wp_bind.mp q1)⟩
    have env2 := env1.step f2 s2
    refine ⟨c, n2, Oi, B, O, r, env2, M.wp_mono (fun o2 n3 k3 H3 f3 s3 => ?_) (fun _ _ h => h.step f2) (M.wp_bind.mp k)⟩
    have env3 := env2.step f3 s3
    obtain ⟨w, hw, q3⟩ := opt_wp k3
    exact ⟨c, O, true, x, w, env3.at, rb.step (f2.trans f3) env1.sO' env1.lO' env1.trk, hw, fin_ans env3 ((f1.trans f2).trans f3) q3⟩) (by intro _; rfl)

/-! ### calls -/
theorem applyF_of {fs : Fns} {f : Nat} {F : List W → M W} {ws : List W} (h : fs[f]? = some F) : applyF fs f ws = F ws := by
  unfold applyF; rw [h]
/-- what the callee promises is what is wanted -/
theorem sp_of {nn : Nat} {F : List W → M W} {ws : List W} {vs : List V} (env : EOk T c N Oi B O H1 σ r) (hl : vs.length = nn) (rws : RWs T.K T.fa c (hide O H1) vs ws) (f1 : Fr c H H1) {bw : Bool} (q : (F ws).wp N (Fin T c O H bw Q) (EX T Ex c O H1)) : spM T nn F vs H1 Q Ex :=
  ⟨hl, c, N, O, ws, env.sO', env.lO', env.trk, env.st, rws, M.wp_mono (fun w n k v H' f s rb => k v H' (f1.trans f) s (.inl rb.plain)) (fun x n h => h) q⟩
section
variable {kw : List (Nat × Nat × List Str × List Nat)} {Nm : List Str} {sc : Scope} {Fn : Str → Bool}
theorem gl_of (xo : XOk T Nm sc Fn Ex X) (h : glB sc x = true) : Gl X x := by
  show X.env.scope.names.lookup x = _
  rw [xo.hsc]
  exact (glB_ok h).1
theorem s_call {f : Nat} (tk : TOk T kw) (xo : XOk T Nm sc Fn Ex X) (hf : T.fn[f]? = some x) (hg : glB sc x = true) (h : SndL T Ex X es ps) : Snd T Ex X (.call f es) (.Call (.Name x p) ps [] pos) := by
  obtain ⟨F, nn, fd, pps, h1, h2, h3, h4, h5, h6, h7, _⟩ := tk.fns f x hf
  have FG : FnG X.prog X.w X.K X.mg X.base T.k (T.fa f) fd pps (spM T nn F) := by rw [xo.hP, xo.hw, xo.hK, xo.hmg, xo.hbase]; exact h6
  refine .plain (fun _ => rfl) ?_ (by intro _; rfl)
  cases h with
  | nil =>
    refine PE.weak (pe_cG0 FG xo.room xo.gd (gl_of xo hg) (by rw [xo.hmg]; exact h2) (by rw [xo.hK]; exact h3) (by rw [xo.hK]; exact h4) xo.pas (glB_ok hg).2) fun σ H Q ⟨c, N, Oi, B, O, r, env, q⟩ => ?_
    unfold evE evL at q
    have q : (applyF T.fs f []).wp N (Fin T c O H false Q) (EX T Ex c O H) := q
    rw [applyF_of h1] at q
    exact sp_of env (h7 _ _ _ _ q) .nil Fr.refl q
  | cons h s t =>
    refine PE.weak (pe_cG FG xo.room xo.gd (gl_of xo hg) (by rw [xo.hmg]; exact h2) (by rw [xo.hK]; exact h3) (by rw [xo.hK]; exact h4) xo.pas (SndL.cons h s t).toPA (glB_ok hg).2 (star_each s) (star_any t.star)) fun σ H Q ⟨c, N, Oi, B, O, r, env, q⟩ => ?_
    unfold evE at q
    refine rd1L env q fun ws n vs H1 f1 env1 rws q1 => ?_
    rw [applyF_of h1] at q1
    exact sp_of env1 (by rw [rws.len]; exact h7 _ _ _ _ q1) rws f1 q1
/-- a call of a name of the def's own -/
theorem callL_any {i : Nat} (tk : TOk T kw) (xo : XOk T Nm sc Fn Ex X) (hN : X.N[i]? = some x) (hv : Vis X.env.scope x) (hd : (x == ("__debug__" : Str)) = false) (hcd : (x == ("__classdict__" : Str)) = false)
    (h : SndL T Ex X es ps) (hne : ps ≠ []) : PE X (.Call (.Name x p) ps [] pos) (rdE T Ex false (.callv i es)) := by
  refine ⟨fun pins s σ H Q I ⟨c, N, Oi, B, O, r, env, q⟩ => ?_⟩
  unfold evE at q
  have q := M.wp_bind.mp q
  have q : (getN r false i).wp N _ _ := q
  unfold getN at q
  split at q
  · rename_i w hw
    obtain ⟨v, g1, g2⟩ := env.sh i w hw
    obtain ⟨f, rfl, hlt, q⟩ := callW_wp (show (callW T.fs w _).wp N _ _ from q)
    cases h with
    | nil => exact absurd rfl hne
    | cons h s2 t =>
      have hlt2 : f < T.fn.length := by rw [tk.ln]; exact hlt
      obtain ⟨F, nn, fd, pps, h1, h2, h3, h4, h5, h6, h7, _⟩ := tk.fns f _ (List.getElem?_eq_getElem hlt2)
      have FG : FnG X.prog X.w X.K X.mg X.base T.k (T.fa f) fd pps (spM T nn F) := by rw [xo.hP, xo.hw, xo.hK, xo.hmg, xo.hbase]; exact h6
      cases g2
      refine (pe_cGL FG xo.room xo.gd hN hv (by rw [xo.hK]; exact h3) (by rw [xo.hK]; exact h4) xo.pas (SndL.cons h s2 t).toPA hd hcd (star_each s2) (star_any t.star)).run pins s σ H Q I ⟨g1, ?_⟩
      refine rd1L env q fun ws n vs H1 f1 env1 rws q1 => ?_
      rw [applyF_of h1] at q1
      exact sp_of env1 (by rw [rws.len]; exact h7 _ _ _ _ q1) rws f1 q1
  · split at q
    · rename_i hb; cases hb
    · exact q.elim
  · exact q.elim
theorem s_callv {i : Nat} (tk : TOk T kw) (xo : XOk T Nm sc Fn Ex X) (hN : X.N[i]? = some x) (hv : Vis X.env.scope x) (hd : (x == ("__debug__" : Str)) = false) (hcd : (x == ("__classdict__" : Str)) = false)
    (h : SndL T Ex X es ps) (hne : ps ≠ []) : Snd T Ex X (.callv i es) (.Call (.Name x p) ps [] pos) := .plain (fun _ => rfl) (callL_any tk xo hN hv hd hcd h hne) (by intro _; rfl)
/-! with names -/
theorem SndL.split : ∀ {es : EL} {ps qs : List Expr}, SndL T Ex X es (ps ++ qs) → ∃ e1 e2, SndL T Ex X e1 ps ∧ SndL T Ex X e2 qs ∧ (∀ fs gs r, evL fs gs r es = (evL fs gs r e1).bind fun ws => (evL fs gs r e2).bind fun zs => .ret (ws ++ zs))
  | es, [], qs, h => ⟨.nil, es, .nil, h, fun fs gs r => by
      show evL fs gs r es = (M.ret []).bind fun ws => (evL fs gs r es).bind fun zs => .ret (ws ++ zs)
      rw [M.bind_ret]
      have : ∀ m : M (List W), m = m.bind fun zs => .ret ([] ++ zs) := fun m => by
        induction m with
        | ret a => rfl
        | exc x => rfl
        | stuck => rfl
        | draw n k ih => show M.draw n k = M.draw n _; congr 1; funext i; exact ih i
      exact this _⟩
  | .cons e es, p :: ps, qs, .cons h s t => by
    obtain ⟨e1, e2, h1, h2, h3⟩ := SndL.split t
    refine ⟨.cons e e1, e2, .cons h s h1, h2, fun fs gs r => ?_⟩
    show (evE fs gs r false e).bind (fun w => (evL fs gs r es).bind fun ws => .ret (w :: ws)) = _
    rw [show evL fs gs r (.cons e e1) = (evE fs gs r false e).bind (fun w => (evL fs gs r e1).bind fun ws => .ret (w :: ws)) from rfl, M.bind_assoc]
    congr 1
    funext w
    rw [h3 fs gs r, M.bind_assoc, M.bind_assoc]
    congr 1
    funext ws
    rw [M.bind_assoc]
    rfl
theorem k_all : ∀ {es : EL} {kws : List Keyword}, SndL T Ex X es (kwEs kws) → PK X kws (rdL T Ex es)
  | _, [], h => by
    cases h
    exact ⟨fun pos pins s σ H Q I q => pk_nil.run pos pins s σ H Q I (by
      obtain ⟨c, N, Oi, B, O, r, env, q⟩ := q
      have q : FinL T c O H Q [] N := q
      exact q [] H Fr.refl env.st .nil)⟩
  | es, ⟨nm, e0, kp⟩ :: kws, h => by
    have h : SndL T Ex X es (e0 :: kwEs kws) := h
    cases h with
    | cons h s t =>
      exact ⟨fun pos pins s σ H Q I q => (pk_cons h.pf (k_all t)).run pos pins s σ H Q I (by
        obtain ⟨c, N, Oi, B, O, r, env, q⟩ := q
        unfold evL at q
        refine rd1 env q fun w n v H1 f1 env1 rb q1 => rd1L env1 q1 fun ws n2 vs H2 f2 env2 rws q2 => ?_
        have q2 : FinL T c O H Q (w :: ws) n2 := q2
        exact q2 (v :: vs) H2 (f1.trans f2) env2.st (.cons (rb.plain.mono (f2.hide env1.sO' env1.lO')) rws))⟩
theorem kw_len : ∀ {kws : List Keyword}, kwAll kws = true → (kwNames kws).length = kws.length ∧ (kwEs kws).length = kws.length
  | [], _ => ⟨rfl, rfl⟩
  | ⟨some x, e, p⟩ :: r, h => by
    have := kw_len (kws := r) h
    exact ⟨congrArg (· + 1) this.1, congrArg (· + 1) this.2⟩
  | ⟨none, e, p⟩ :: r, h => by cases h
theorem kw_facts {env : PySem.Env} {pos : Pos} : ∀ {kws : List Keyword}, kwAll kws = true → (backToKw pos (keywordEach kws env)).all (·.1.isSome) = true ∧ (backToKw pos (keywordEach kws env)).filterMap (·.1) = kwNames kws ∧ (backToKw pos (keywordEach kws env)).any (·.1.isNone) = false
  | [], _ => ⟨rfl, rfl, rfl⟩
  | ⟨some x, e, p⟩ :: r, h => by
    obtain ⟨h1, h2, h3⟩ := kw_facts (env := env) (pos := pos) (kws := r) h
    refine ⟨?_, ?_, ?_⟩
    · show (true && (backToKw pos (keywordEach r env)).all (·.1.isSome)) = true
      rw [h1]; rfl
    · show x :: (backToKw pos (keywordEach r env)).filterMap (·.1) = x :: kwNames r
      rw [h2]
    · show (false || (backToKw pos (keywordEach r env)).any (·.1.isNone)) = false
      rw [h3]; rfl
  | ⟨none, e, p⟩ :: r, h => by cases h
theorem perm_rel {K : Frag} {fa : Nat → Addr} {G : Hp} {vs : List V} {ws : List W} (h : RWs K fa c G vs ws) : ∀ {perm : List Nat} {us : List W}, permW ws perm = some us → RWs K fa c G (perm.map fun i => vs.getD i .non) us
  | [], us, q => by cases q; exact .nil
  | i :: is, us, q => by
    unfold permW at q
    cases h1 : ws[i]? with
    | none => rw [h1] at q; cases q
    | some w =>
      cases h2 : permW ws is with
      | none => rw [h1, h2] at q; cases q
      | some r =>
        rw [h1, h2] at q
        cases q
        refine .cons ?_ (perm_rel h h2)
        have : ∀ {vs : List V} {ws : List W} {i : Nat} {w : W}, RWs K fa c G vs ws → ws[i]? = some w → RW K fa c G (vs.getD i .non) w := by
          intro vs ws i w h
          induction h generalizing i with
          | nil => intro q; simp at q
          | cons h t ih =>
            intro q
            cases i with
            | zero => simp at q; subst q; exact h
            | succ i => simpa using ih (by simpa using q)
        exact this h h1
theorem RWs.append {K : Frag} {fa : Nat → Addr} {G : Hp} : ∀ {vs vs' : List V} {ws ws' : List W}, RWs K fa c G vs ws → RWs K fa c G vs' ws' → RWs K fa c G (vs ++ vs') (ws ++ ws')
  | _, _, _, _, .nil, q => q
  | _, _, _, _, .cons a t, q => .cons a (t.append q)
theorem permW_len {ws : List W} : ∀ {perm : List Nat} {us : List W}, permW ws perm = some us → us.length = perm.length
  | [], us, q => by cases q; rfl
  | i :: is, us, q => by
    unfold permW at q
    cases h1 : ws[i]? with
    | none => rw [h1] at q; cases q
    | some w =>
      cases h2 : permW ws is with
      | none => rw [h1, h2] at q; cases q
      | some r =>
        rw [h1, h2] at q
        cases q
        exact congrArg (· + 1) (permW_len h2)
theorem s_callk {f np : Nat} {ks : List Str} {perm : List Nat} {kws : List Keyword} (tk : TOk T kw) (xo : XOk T Nm sc Fn Ex X) (hf : T.fn[f]? = some x) (hg : glB sc x = true) (hm : (f, np, ks, perm) ∈ kw) (hks : kwNames kws = ks) (hall : kwAll kws = true) (hnp : ps.length = np)
    (h : SndL T Ex X es (ps ++ kwEs kws)) : Snd T Ex X (.callk f np ks perm es) (.Call (.Name x p) ps kws pos) := by
  obtain ⟨F, nn, fd, pps, h1, h2, h3, h4, h5, h6, h7, h8⟩ := tk.fns f x hf
  have FG : FnG X.prog X.w X.K X.mg X.base T.k (T.fa f) fd pps (spM T nn F) := by rw [xo.hP, xo.hw, xo.hK, xo.hmg, xo.hbase]; exact h6
  have KO : KwOk X.K fd pps np ks perm := by rw [xo.hK]; exact h8 _ hm rfl
  obtain ⟨e1, e2, g1, g2, g3⟩ := h.split
  obtain ⟨n1, n2⟩ := kw_len hall
  obtain ⟨k1, k2, k3⟩ := kw_facts (env := X.env) (pos := pos) hall
  have hlen : ∀ ws : List Value, ws.length = kws.length → ks.length = ws.length := fun ws hw => by rw [← hks, n1, hw]
  have hzl : ∀ σ H Q, rdL T Ex e2 σ H Q → rdL T Ex e2 σ H fun zs H' => zs.length = kws.length ∧ Q zs H' := fun σ H Q ⟨c, N, Oi, B, O, r, env, q⟩ =>
    ⟨c, N, Oi, B, O, r, env, M.wp_mono (fun ws n k vs H' f s rws => ⟨by rw [rws.len, k.1, ← g2.len, n2], k.2 vs H' f s rws⟩) (fun _ _ x => x) (evL_len q)⟩
  refine .plain (fun _ => rfl) ?_ (by intro _; rfl)
  have key : ∀ σ H Q, rdE T Ex false (.callk f np ks perm es) σ H Q → tCGK (spM T nn F) perm np Ex (rdL T Ex e1) (rdL T Ex e2) σ H Q := fun σ H Q ⟨c, N, Oi, B, O, r, env, q⟩ => by
    unfold evE at q
    rw [g3, M.bind_assoc] at q
    refine ⟨c, N, Oi, B, O, r, env, M.wp_mono (fun ws n q vs H1 f1 s1 rws => ?_) (fun _ _ x => x) (evL_len (M.wp_bind.mp q))⟩
    obtain ⟨hws, q⟩ := q
    have env1 := env.step f1 s1
    rw [M.bind_assoc] at q
    refine ⟨c, n, Oi, B, O, r, env1, M.wp_mono (fun zs n2 q zvs H2 f2 s2 rzs => ?_) (fun _ _ h => h.step f1) (M.wp_bind.mp q)⟩
    have env2 := env1.step f2 s2
    have q : (match permW (ws ++ zs) perm with
      | some vs => applyF T.fs f vs
      | none => .stuck : M W).wp n2 (Fin T c O H false Q) (EX T Ex c O H) := q
    cases hp : permW (ws ++ zs) perm with
    | none => rw [hp] at q; exact q.elim
    | some us =>
      rw [hp] at q
      have q : (applyF T.fs f us).wp n2 (Fin T c O H false Q) (EX T Ex c O H) := q
      rw [applyF_of h1] at q
      refine ⟨by rw [rws.len, hws, ← g1.len, hnp], ?_⟩
      have rw2 : RWs T.K T.fa c (hide O H2) (perm.map fun i => (vs ++ zvs).getD i .non) us := perm_rel ((rws.mono (f2.hide env1.sO' env1.lO')).append rzs) hp
      refine sp_of env2 (by rw [rw2.len]; exact h7 _ _ _ _ q) rw2 (f1.trans f2) (M.wp_mono (fun _ _ h => h) (fun x n h => h.step (f1.trans f2)) q)
  cases g1 with
  | nil =>
    have hz : np = 0 := by rw [← hnp]; rfl
    subst hz
    exact PE.weak (pe_cGK0 FG xo.room xo.gd (gl_of xo hg) (by rw [xo.hmg]; exact h2) (by rw [xo.hK]; exact h3) KO xo.pas (k_all g2) k1 (by rw [k2]; exact hks) hlen (glB_ok hg).2 (by rw [k3]; rfl) hzl) fun σ H Q h => by
      obtain ⟨c, N, Oi, B, O, r, env, q⟩ := key σ H Q h
      have q : FinL T c O H _ [] N := q
      exact q [] H Fr.refl env.st .nil
  | cons hh s2 t =>
    exact PE.weak (pe_cGK FG xo.room xo.gd (gl_of xo hg) (by rw [xo.hmg]; exact h2) (by rw [xo.hK]; exact h3) KO xo.pas (SndL.cons hh s2 t).toPA (k_all g2) k1 (by rw [k2]; exact hks) hlen (glB_ok hg).2 (star_each s2)
      (by rw [k3, Bool.or_false]; exact star_any (SndL.cons hh s2 t).star) hzl) key
end
end
end DS

set_option Elab.async false
set_option linter.all false
set_option autoImplicit false
set_option maxRecDepth 100000
set_option maxHeartbeats 4000000
/-! DS10: built-ins called by name; what loops walk. -/
namespace DS
open PySem PySem.Spec PySem.SeqAt PyProof.Rows L2
section
variable {T : Stc} {Ex : XK} {X : Cx} {e a b d : E} {es : EL} {ps : List Expr} {pe pa pb pd : Expr} {pos p : Pos} {c : StA} {O Oi : List Addr} {H H1 B : Hp} {N n : Nat} {σ : L2.St} {r : Env} {Q : VK} {x : Str}
  {kw : List (Nat × Nat × List Str × List Nat)} {Nm : List Str} {sc : Scope} {Fn : Str → Bool}
/-- one borrowed argument -/
theorem arg1 (ha : Snd T Ex X a pa) (hs : star pa = false) : PA X [pa] (tCons (rdE T Ex true a) tNil) := pa_cons ha.pt pa_nil (star_each hs)
theorem arg1f (ha : Snd T Ex X a pa) (hs : star pa = false) : PA X [pa] (tCons (rdE T Ex false a) tNil) := pa_cons ha.pf pa_nil (star_each hs)
theorem b1_key {f : W → Option W} (q : ((evE T.fs T.gs r true a).bind fun x => opt (f x)).wp N (Fin T c O H false Q) (EX T Ex c O H)) (env : EOk T c N Oi B O H σ r) : tCB (rB1 T f) (tCons (rdE T Ex true a) tNil) σ H Q := by
  refine rd1 env q fun x n v H1 f1 env1 rb q1 => ?_
  obtain ⟨w, hw, q2⟩ := opt_wp q1
  exact ⟨v, c, O, true, x, w, rfl, env1.at, rb, hw, (fin_ans env1 f1 q2).f⟩
theorem mgn (tk : TOk T kw) (xo : XOk T Nm sc Fn Ex X) (h : x ∈ bnames) : X.mg x = none := by rw [xo.hmg]; exact tk.bn x h
theorem cr_range1 : CallR X (.type "range") (fun vs H Q => ∃ j, vs = [V.int j] ∧ ∀ p, H p = none → Q (.ref p) (upd H p (.rng 0 j))) := by
  intro pins s σ H vs us Q I r h
  obtain ⟨j, rfl, q⟩ := h
  obtain ⟨u1, rfl, ri⟩ := vals1 r
  obtain ⟨t, rfl⟩ := ri
  refine call_range_1 ⟨.ref s.heap.objs.size, upd H s.heap.objs.size (.rng 0 j), I.laid (t' := _) (fun b o e => Heap.get?_push_of_some _ e) (Nat.le_refl _) ?_, rfl, q _ (I.hok.fresh (Nat.le_refl _))⟩
  exact ⟨_, t, _, Heap.get?_push_size _ rfl⟩
theorem items_vals {lo : Int} {n : Nat} {acc : Array Value} (h : ItemsOf (fun i v => ∃ t, v = Value.int (lo + i * 1) t) acc n) : Vals ((List.range n).map fun (k : Nat) => V.int (lo + (k : Int))) acc.toList := by
  have hl : acc.toList.length = n := by rw [Array.length_toList]; exact h.1
  have go : ∀ (l : List Value) (k : Nat), (∀ j v, l[j]? = some v → ∃ t, v = Value.int (lo + ((k + j : Nat) : Int)) t) → Vals ((List.range' k l.length).map fun (k : Nat) => V.int (lo + (k : Int))) l := by
    intro l
    induction l with
    | nil => intro k _; exact .nil
    | cons v l ih =>
      intro k hk
      rw [List.length_cons, List.range'_succ, List.map_cons]
      refine .cons ?_ (ih (k + 1) fun j v hv => ?_)
      · obtain ⟨t, e⟩ := hk 0 v rfl
        exact ⟨t, e⟩
      · obtain ⟨t, e⟩ := hk (j + 1) v (by simpa using hv)
        exact ⟨t, by rw [e]; congr 2; omega⟩
  rw [List.range_eq_range', ← hl]
  refine go acc.toList 0 fun j v hv => ?_
  obtain ⟨t, e⟩ := h.2 j v (by rw [← Array.getElem?_toList]; exact hv)
  exact ⟨t, by rw [e]; congr 2 <;> omega⟩
theorem call_list_rng (hc : X.calm = true) : CallR X (.type "list") (fun vs H Q => ∃ a hi, vs = [V.ref a] ∧ H a = some (.rng 0 hi) ∧ 0 ≤ hi ∧ hi ≤ cap ∧ ∀ l, H l = none → Q (.ref l) (upd H l (.lst ((List.range hi.toNat).map fun (k : Nat) => V.int (0 + (k : Int)))))) := by
  intro pins s σ H vs us Q I r h
  obtain ⟨a, hi, rfl, ha, h0, h1, q⟩ := h
  obtain ⟨u1, rfl, ri⟩ := vals1 r
  cases ri
  obtain ⟨t, u, v, ho⟩ := I.hok a _ ha
  have hcap : cap = 100000 := rfl
  refine call_list_range (n := hi.toNat) (I.ok.hd hc) (show IsRange s.heap a 0 hi 1 t u v from ho) (small_one (by omega) (by omega) (by omega) (by omega)) (by rw [rangeSize_one]; split <;> omega) (by omega) fun h' tk acc c' hk e hi2 => ?_
  have hv := items_vals hi2
  refine ⟨.ref s.heap.objs.size, upd H s.heap.objs.size (.lst _), I.laid (t' := tk) hk (Nat.le_refl _) ?_, rfl, q _ (I.hok.fresh (Nat.le_refl _))⟩
  refine ⟨?_, acc.toList, c', hv, by simpa using e⟩
  rw [List.length_map, List.length_range, sizeLine_eq]
  omega
theorem rng_rel {K : Frag} {G : Hp} (m : Nat) : RDs K G ((List.range m).map fun (k : Nat) => V.int (0 + (k : Int))) ((List.range m).map fun (k : Nat) => PyData.int (k : Int)) := by
  have e : ((List.range m).map fun (k : Nat) => V.int (0 + (k : Int))) = ((List.range m).map fun (k : Nat) => (k : Int)).map V.int := by rw [List.map_map]; congr 1; funext k; show V.int (0 + (k : Int)) = V.int (k : Int); congr 1; omega
  have e2 : ((List.range m).map fun (k : Nat) => PyData.int (k : Int)) = ((List.range m).map fun (k : Nat) => (k : Int)).map PyData.int := by rw [List.map_map]; rfl
  rw [e, e2]
  exact .of_ints _
theorem s_b1 {bb : B1} (tk : TOk T kw) (xo : XOk T Nm sc Fn Ex X) (ha : Snd T Ex X a pa) (hs : star pa = false) (hg : glB sc (b1N bb) = true) (hb : b1In bb = none) : Snd T Ex X (.b1 bb a) (.Call (.Name (b1N bb) p) [pa] [] pos) := by
  refine .plain (fun _ => rfl) ?_ (by intro _; rfl)
  have G := gl_of xo hg
  cases bb with
  | len => exact PE.weak (pe_callB (call_len_w (T := T) xo.hK) G (mgn tk xo (by decide)) (by decide +kernel) (arg1 ha hs) (by decide) (by decide) (star_each hs) rfl) fun σ H Q ⟨c, N, Oi, B, O, r, env, q⟩ => b1_key (f := lenW) (by unfold evE at q; exact q) env
  | tuple => exact PE.weak (pe_callTy (call_tuple_w (T := T) xo.hK) G (mgn tk xo (by decide)) (by decide +kernel) (arg1 ha hs) (by decide) (by decide) (star_each hs) rfl) fun σ H Q ⟨c, N, Oi, B, O, r, env, q⟩ => b1_key (f := tupleW) (by unfold evE at q; exact q) env
  | list => exact PE.weak (pe_callTy (call_list_w (T := T) xo.hK) G (mgn tk xo (by decide)) (by decide +kernel) (arg1 ha hs) (by decide) (by decide) (star_each hs) rfl) fun σ H Q ⟨c, N, Oi, B, O, r, env, q⟩ => b1_key (f := listW) (by unfold evE at q; exact q) env
  | sorted => exact PE.weak (pe_callB (call_sorted_w (T := T) xo.hK xo.calm) G (mgn tk xo (by decide)) (by decide +kernel) (arg1 ha hs) (by decide) (by decide) (star_each hs) rfl) fun σ H Q ⟨c, N, Oi, B, O, r, env, q⟩ => b1_key (f := sortedW) (by unfold evE at q; exact q) env
  | sum => exact PE.weak (pe_callB (call_sum_w (T := T) xo.calm) G (mgn tk xo (by decide)) (by decide +kernel) (arg1 ha hs) (by decide) (by decide) (star_each hs) rfl) fun σ H Q ⟨c, N, Oi, B, O, r, env, q⟩ => b1_key (f := sumW) (by unfold evE at q; exact q) env
  | int => exact PE.weak (pe_callTy (call_int_w (T := T)) G (mgn tk xo (by decide)) (by decide +kernel) (arg1 ha hs) (by decide) (by decide) (star_each hs) rfl) fun σ H Q ⟨c, N, Oi, B, O, r, env, q⟩ => b1_key (f := intW) (by unfold evE at q; exact q) env
  | listRange => cases hb
  | tupRange => cases hb
  | sortedSet => cases hb
  | lenSet => cases hb
/-- list(range(n)), by what is wanted of its answer -/
def tLR (T : Stc) (te : TE) : TE := fun σ H Q => te σ H fun v H1 => ∃ m c O, v = .int m ∧ At T c O H1 ∧ 0 ≤ m ∧ m ≤ cap ∧ AnsF T c O H1 (.d (.list ((List.range m.toNat).map fun (k : Nat) => PyData.int (k : Int)))) Q
theorem pe_lr {p2 pos2 : Pos} {bw : Bool} (tk : TOk T kw) (xo : XOk T Nm sc Fn Ex X) (ha : PE X pa (rdE T Ex bw a)) (hs : star pa = false) (hg : glB sc "list" = true) (hg2 : glB sc "range" = true) : PE X (.Call (.Name "list" p) [.Call (.Name "range" p2) [pa] [] pos2] [] pos) (tLR T (rdE T Ex bw a)) := by
  refine PE.weak (pe_callTy (call_list_rng xo.calm) (gl_of xo hg) (mgn tk xo (by decide)) (by decide +kernel) (pa_cons (pe_callTy (X := X) cr_range1 (gl_of xo hg2) (mgn tk xo (by decide)) (by decide +kernel) (pa_cons ha pa_nil (star_each hs)) (by decide) (by decide) (star_each hs) rfl) pa_nil rfl) (by decide) (by decide) rfl rfl) fun σ H Q h => ?_
  obtain ⟨c0, N, Oi, B, O0, r, env, h⟩ := h
  refine ⟨c0, N, Oi, B, O0, r, env, M.wp_mono (fun w n k v H1 f s rb => ?_) (fun _ _ x => x) h⟩
  obtain ⟨m, c, O, rfl, e, h0, h1, an⟩ := k v H1 f s rb
  refine ⟨m, rfl, fun p1 hp1 => ⟨p1, m, rfl, upd_same, h0, h1, fun l hl => ?_⟩⟩
  have hne : l ≠ p1 := fun z => by rw [z, upd_same] at hl; cases hl
  have hl1 : H1 l = none := by rw [upd_ne hne] at hl; exact hl
  have s1 : Same H1 (upd H1 p1 (.rng 0 m)) := same_new hp1
  refine an _ _ (s1.trans (same_new hl)) ⟨.d (.lst (by rw [hide_out (e.fresh hl1)]; exact upd_same) (rng_rel _)), fun _ => ⟨l, rfl, hl1, .lst upd_same (rng_rel _)⟩⟩
theorem lr_key (q : (evE T.fs T.gs r false (.b1 .listRange a)).wp N (fun w n => ∀ H1, Fr c H H1 → StOk c n H1 → AnsF T c O H1 w Q) (EX T Ex c O H)) (env : EOk T c N Oi B O H σ r) : tLR T (rdE T Ex true a) σ H Q := by
  unfold evE at q
  refine rd1 env q fun x n v H1 f1 env1 rb q1 => ?_
  obtain ⟨w, hw, q2⟩ := opt_wp q1
  have hw : rangeW x = some w := hw
  unfold rangeW at hw
  split at hw
  · rename_i m _
    obtain ⟨⟨h0, h1⟩, hw⟩ := if_some hw
    subst hw
    exact ⟨m, c, O, rb.int, env1.at, h0, h1, q2 H1 f1 env1.st⟩
  · cases hw
theorem s_lr {p2 pos2 : Pos} (tk : TOk T kw) (xo : XOk T Nm sc Fn Ex X) (ha : Snd T Ex X a pa) (hs : star pa = false) (hg : glB sc "list" = true) (hg2 : glB sc "range" = true) : Snd T Ex X (.b1 .listRange a) (.Call (.Name "list" p) [.Call (.Name "range" p2) [pa] [] pos2] [] pos) := by
  refine .plain (fun _ => rfl) ?_ (by intro _; rfl)
  exact PE.weak (pe_lr tk xo ha.pt hs hg hg2) fun σ H Q ⟨c, N, Oi, B, O, r, env, q⟩ => lr_key (M.wp_mono (fun w n h H1 f s => (fin_ans (env.step f s) f h).f) (fun _ _ x => x) q) env
/-! tuple(range(n)) -/
theorem call_tup_rng (hc : X.calm = true) : CallR X (.type "tuple") (fun vs H Q => ∃ a hi, vs = [V.ref a] ∧ H a = some (.rng 0 hi) ∧ 0 ≤ hi ∧ hi ≤ cap ∧ ∀ l, H l = none → Q (.ref l) (upd H l (.tup ((List.range hi.toNat).map fun (k : Nat) => V.int (0 + (k : Int)))))) := by
  intro pins s σ H vs us Q I r h
  obtain ⟨a, hi, rfl, ha, h0, h1, q⟩ := h
  obtain ⟨u1, rfl, ri⟩ := vals1 r
  cases ri
  obtain ⟨t, u, v, ho⟩ := I.hok a _ ha
  have hcap : cap = 100000 := rfl
  refine call_tuple_range (n := hi.toNat) (I.ok.hd hc) (show IsRange s.heap a 0 hi 1 t u v from ho) (small_one (by omega) (by omega) (by omega) (by omega)) (by rw [rangeSize_one]; split <;> omega) (by omega) fun h' tk acc hk hi2 => ?_
  have hv := items_vals hi2
  have J : Inv X pins σ H { s with heap := h', toks := tk } := I.kept hk
  refine ⟨.ref h'.objs.size, upd H h'.objs.size (.tup _), J.laid (t' := tk) (fun b o e => Heap.get?_push_of_some _ e) (Nat.le_refl _) ?_, rfl, q _ (J.hok.fresh (Nat.le_refl _))⟩
  refine ⟨?_, acc.toList, hv, ?_⟩
  · rw [List.length_map, List.length_range, sizeLine_eq]
    omega
  · exact ⟨_, Heap.get?_push_size _ rfl, rfl, 0, by simp⟩
def tTR (T : Stc) (te : TE) : TE := fun σ H Q => te σ H fun v H1 => ∃ m c O, v = .int m ∧ At T c O H1 ∧ 0 ≤ m ∧ m ≤ cap ∧ AnsF T c O H1 (.d (.tuple ((List.range m.toNat).map fun (k : Nat) => PyData.int (k : Int)))) Q
theorem pe_tr {p2 pos2 : Pos} {bw : Bool} (tk : TOk T kw) (xo : XOk T Nm sc Fn Ex X) (ha : PE X pa (rdE T Ex bw a)) (hs : star pa = false) (hg : glB sc "tuple" = true) (hg2 : glB sc "range" = true) : PE X (.Call (.Name "tuple" p) [.Call (.Name "range" p2) [pa] [] pos2] [] pos) (tTR T (rdE T Ex bw a)) := by
  refine PE.weak (pe_callTy (call_tup_rng xo.calm) (gl_of xo hg) (mgn tk xo (by decide)) (by decide +kernel) (pa_cons (pe_callTy (X := X) cr_range1 (gl_of xo hg2) (mgn tk xo (by decide)) (by decide +kernel) (pa_cons ha pa_nil (star_each hs)) (by decide) (by decide) (star_each hs) rfl) pa_nil rfl) (by decide) (by decide) rfl rfl) fun σ H Q h => ?_
  obtain ⟨c0, N, Oi, B, O0, r, env, h⟩ := h
  refine ⟨c0, N, Oi, B, O0, r, env, M.wp_mono (fun w n k v H1 f s rb => ?_) (fun _ _ x => x) h⟩
  obtain ⟨m, c, O, rfl, e, h0, h1, an⟩ := k v H1 f s rb
  refine ⟨m, rfl, fun p1 hp1 => ⟨p1, m, rfl, upd_same, h0, h1, fun l hl => ?_⟩⟩
  have hne : l ≠ p1 := fun z => by rw [z, upd_same] at hl; cases hl
  have hl1 : H1 l = none := by rw [upd_ne hne] at hl; exact hl
  have s1 : Same H1 (upd H1 p1 (.rng 0 m)) := same_new hp1
  exact an _ _ (s1.trans (same_new hl)) ⟨.d (.tup (.inl (.inl (by rw [hide_out (e.fresh hl1)]; exact upd_same))) (rng_rel _)), fun z => by cases z⟩
theorem s_tr {p2 pos2 : Pos} (tk : TOk T kw) (xo : XOk T Nm sc Fn Ex X) (ha : Snd T Ex X a pa) (hs : star pa = false) (hg : glB sc "tuple" = true) (hg2 : glB sc "range" = true) : Snd T Ex X (.b1 .tupRange a) (.Call (.Name "tuple" p) [.Call (.Name "range" p2) [pa] [] pos2] [] pos) := by
  refine .plain (fun _ => rfl) ?_ (by intro _; rfl)
  refine PE.weak (pe_tr tk xo ha.pt hs hg hg2) fun σ H Q ⟨c, N, Oi, B, O, r, env, q⟩ => ?_
  unfold evE at q
  refine rd1 env q fun x n v H1 f1 env1 rb q1 => ?_
  obtain ⟨w, hw, q2⟩ := opt_wp q1
  have hw : rangeTW x = some w := hw
  unfold rangeTW at hw
  split at hw
  · rename_i m _
    obtain ⟨⟨h0, h1⟩, hw⟩ := if_some hw
    subst hw
    exact ⟨m, c, O, rb.int, env1.at, h0, h1, (fin_ans env1 f1 q2).f⟩
  · cases hw
/-! sorted(set(..)), len(set(..)) -/
def rSI (X : Cx) : List V → Hp → VK → Prop := fun vs H Q => ∃ (a : Addr) (ns : List Int), vs = [V.ref a] ∧ (SqL X.K H a (ns.map V.int) ∨ SqT X.K H a (ns.map V.int)) ∧ ns.length + 1 < scanBound ∧ ∀ p n, H p = none → n ≤ ns.length → Q (.ref p) (upd H p (SetO X.w p (fun j => decide (j ∈ ns)) n))
def rST (X : Cx) : List V → Hp → VK → Prop := fun vs H Q => ∃ (a : Addr) (ks : List (Addr × List Int)), vs = [V.ref a] ∧ (SqL X.K H a (ks.map fun p => V.ref p.1) ∨ SqT X.K H a (ks.map fun p => V.ref p.1)) ∧
    (∀ p ∈ ks, SqT X.K H p.1 (p.2.map V.int)) ∧ ks.length < 64 ∧ ∀ p L, H p = none → (∀ q ∈ L, q ∈ ks) → (∀ q ∈ ks, q.2 ∈ L.map (·.2)) → Q (.ref p) (upd H p (SetTO X.prog X.w p L))
theorem cr_set2 (hc : X.calm = true) (hu : X.A.units + 65 < cLine) : CallR X (.type "set") (fun vs H Q => rSI X vs H Q ∨ rST X vs H Q) := fun pins s σ H vs us Q I r h => h.elim (cr_setI hc pins s σ H vs us Q I r) (cr_setT hc hu pins s σ H vs us Q I r)
def rOI (X : Cx) : List V → Hp → VK → Prop := fun vs H Q => ∃ (a : Addr) (S : Int → Bool) (n : Nat), vs = [V.ref a] ∧ H a = some (SetO X.w a S n) ∧ n < 64 ∧ ∀ (ns : List Int) (p : Addr), ns.Pairwise (· < ·) → (∀ k : Int, k ∈ ns ↔ S k = true) → ns.length = n → H p = none → Q (.ref p) (upd H p (.lst (ns.map V.int)))
def rOT (X : Cx) : List V → Hp → VK → Prop := fun vs H Q => ∃ (a : Addr) (L : List (Addr × List Int)), vs = [V.ref a] ∧ H a = some (SetTO X.prog X.w a L) ∧ (∀ p ∈ L, SqT X.K H p.1 (p.2.map V.int)) ∧ (∀ p ∈ L, p.2 ≠ []) ∧
    ∀ (L' : List (Addr × List Int)) (p : Addr), (∀ q ∈ L', q ∈ L) → (L'.map (·.2)).Perm (L.map (·.2)) → (L.map (·.2)).Nodup → (L'.map (·.2)).Pairwise (fun q r => HT.lexLt r q = false) → H p = none → Q (.ref p) (upd H p (.lst (L'.map fun q => V.ref q.1)))
theorem cr_sorted2 (hc : X.calm = true) : CallR X (.builtin "sorted") (fun vs H Q => rOI X vs H Q ∨ rOT X vs H Q) := fun pins s σ H vs us Q I r h => h.elim (cr_sortedSet hc pins s σ H vs us Q I r) (cr_sortedTL hc pins s σ H vs us Q I r)
theorem cr_lenO : CallR X (.builtin "len") (fun vs H Q => ∃ (a : Addr) (S : Int → Bool) (n : Nat), vs = [V.ref a] ∧ H a = some (SetO X.w a S n) ∧ ∀ ks : List Int, ks.Nodup → (∀ k, k ∈ ks ↔ S k = true) → ks.length = n → Q (.int n) H) := by
  intro pins s σ H vs us Q I r h
  obtain ⟨a, S, n, rfl, ha, q⟩ := h
  obtain ⟨o, es, ep, t, ho, hex, hd, g, nd, hm, hb, hf, hn, hr, hl⟩ := setO_get I ha
  rw [Vals.ref1 r]
  refine call_len_set ho hex hd hf (by unfold scanBound at hb; omega) ⟨.int n, H, I.tok _, ⟨_, by rw [hn]⟩, q _ nd (fun k => (hm k).symm) (by rw [List.length_map, Array.length_toList]; exact hn)⟩
def tSS (T : Stc) (f : W → Option W) (te : TE) : TE := fun σ H Q => te σ H fun v H1 => ∃ c O b a w, At T c O H1 ∧ RB T c O H1 b v a ∧ f a = some w ∧ Ans T c O H1 w Q
theorem RB.seq {b : Bool} {v : V} {w : W} {f : List PyData → Option W} {w2 : W} (ha : RB T c O H b v w) (hw : seqW f w = some w2) : ∃ p ys ds, v = .ref p ∧ (SqL T.K H p ys ∨ SqT T.K H p ys) ∧ RDs T.K (hide O H) ys ds ∧ f ds = some w2 := by
  unfold seqW at hw
  split at hw
  · obtain ⟨p, ys, e1, h1, r1⟩ := ha.lst
    exact ⟨p, ys, _, e1, .inl (.inl (.inl h1)), r1, hw⟩
  · obtain ⟨p, ys, e1, h1, r1⟩ := ha.tup
    exact ⟨p, ys, _, e1, .inr (sqT_same hide_le h1), r1, hw⟩
  · cases hw
theorem pe_ss {p2 pos2 : Pos} {bw : Bool} (tk : TOk T kw) (xo : XOk T Nm sc Fn Ex X) (ha : PE X pa (rdE T Ex bw a)) (hs : star pa = false) (hg : glB sc "sorted" = true) (hg2 : glB sc "set" = true) : PE X (.Call (.Name "sorted" p) [.Call (.Name "set" p2) [pa] [] pos2] [] pos) (tSS T sortedSetW (rdE T Ex bw a)) := by
  refine PE.weak (pe_callB (cr_sorted2 xo.calm) (gl_of xo hg) (mgn tk xo (by decide)) (by decide +kernel) (pa_cons (pe_callTy (X := X) (cr_set2 xo.calm xo.hu) (gl_of xo hg2) (mgn tk xo (by decide)) (by decide +kernel) (pa_cons ha pa_nil (star_each hs)) (by decide) (by decide) (star_each hs) rfl) pa_nil rfl) (by decide) (by decide) rfl rfl) fun σ H Q h => ?_
  obtain ⟨c0, N, Oi, B, O0, r, env, h⟩ := h
  refine ⟨c0, N, Oi, B, O0, r, env, M.wp_mono (fun w n k v H1 f s rb => ?_) (fun _ _ x => x) h⟩
  obtain ⟨c, O, b, a, w2, e, ra, hw, an⟩ := k v H1 f s rb
  obtain ⟨q, ys, ds, rfl, sq, r1, hw⟩ := ra.seq (f := setD) hw
  rw [← xo.hK] at sq
  unfold setD at hw
  split at hw
  · rename_i is hi
    obtain ⟨h64, hw⟩ := if_some hw
    subst hw
    have e2 := r1.ints hi
    subst e2
    refine .inl ⟨q, is, rfl, sq, by unfold scanBound; omega, fun p1 n1 hp1 hn1 => .inl ⟨p1, _, n1, rfl, upd_same, by omega, fun ns l hso hmem _ hl => ?_⟩⟩
    have hne : l ≠ p1 := fun z => by rw [z, upd_same] at hl; cases hl
    have hl1 : H1 l = none := by rw [upd_ne hne] at hl; exact hl
    have ens : ns = sortU is := sortU_eq hso fun z => by rw [hmem]; simp
    subst ens
    refine an _ _ ((same_new hp1).trans (same_new hl)) (.d (.lst (by rw [hide_out (e.fresh hl1)]; exact upd_same) (.of_ints _)))
  · split at hw
    · rename_i ts ht
      obtain ⟨⟨hn, h64⟩, hw⟩ := if_some hw
      subst hw
      obtain ⟨ks, e1, e2, e3⟩ := r1.tups ht
      subst e1
      have hkl : ks.length < 64 := by rw [← e2, List.length_map] at h64; exact h64
      refine .inr ⟨q, ks, rfl, sq, fun z hz => by rw [xo.hK]; exact sqT_same hide_le (e3 z hz), hkl, fun p1 L hp1 hL1 hL2 => .inr ⟨p1, L, rfl, upd_same, fun z hz => by rw [xo.hK]; exact sqT_same (hide_le.trans (same_new hp1)) (e3 z (hL1 z hz)), fun z hz => noNil_ok hn _ (e2 ▸ List.mem_map.mpr ⟨z, hL1 z hz, rfl⟩), fun L' l hs' hp' nd hw' hl => ?_⟩⟩
      have hne : l ≠ p1 := fun z => by rw [z, upd_same] at hl; cases hl
      have hl1 : H1 l = none := by rw [upd_ne hne] at hl; exact hl
      have eL : L'.map (·.2) = sortLU ts := sortLU_eq hw' (hp'.nodup_iff.mpr nd) fun z => by
        rw [hp'.mem_iff, ← e2]
        constructor
        · intro hz
          obtain ⟨u, hu, rfl⟩ := List.mem_map.mp hz
          exact List.mem_map.mpr ⟨u, hL1 u hu, rfl⟩
        · intro hz
          obtain ⟨u, hu, rfl⟩ := List.mem_map.mp hz
          exact hL2 u hu
      rw [← eL] at an
      have G2 : Same (hide O H1) (hide O (upd (upd H1 p1 (SetTO X.prog X.w p1 L)) l (.lst (L'.map fun q => V.ref q.1)))) := hide_same ((same_new hp1).trans (same_new hl))
      exact an _ _ ((same_new hp1).trans (same_new hl)) (.d (.lst (by rw [hide_out (e.fresh hl1)]; exact upd_same) (.of_tups fun z hz => sqT_same G2 (e3 z (hL1 z (hs' z hz))))))
    · cases hw
theorem pe_ls {p2 pos2 : Pos} {bw : Bool} (tk : TOk T kw) (xo : XOk T Nm sc Fn Ex X) (ha : PE X pa (rdE T Ex bw a)) (hs : star pa = false) (hg : glB sc "len" = true) (hg2 : glB sc "set" = true) : PE X (.Call (.Name "len" p) [.Call (.Name "set" p2) [pa] [] pos2] [] pos) (tSS T lenSetW (rdE T Ex bw a)) := by
  refine PE.weak (pe_callB cr_lenO (gl_of xo hg) (mgn tk xo (by decide)) (by decide +kernel) (pa_cons (pe_callTy (X := X) (cr_set2 xo.calm xo.hu) (gl_of xo hg2) (mgn tk xo (by decide)) (by decide +kernel) (pa_cons ha pa_nil (star_each hs)) (by decide) (by decide) (star_each hs) rfl) pa_nil rfl) (by decide) (by decide) rfl rfl) fun σ H Q h => ?_
  obtain ⟨c0, N, Oi, B, O0, r, env, h⟩ := h
  refine ⟨c0, N, Oi, B, O0, r, env, M.wp_mono (fun w n k v H1 f s rb => ?_) (fun _ _ x => x) h⟩
  obtain ⟨c, O, b, a, w2, e, ra, hw, an⟩ := k v H1 f s rb
  obtain ⟨q, ys, ds, rfl, sq, r1, hw⟩ := ra.seq (f := lenSetD) hw
  rw [← xo.hK] at sq
  unfold lenSetD at hw
  split at hw
  · rename_i is hi
    obtain ⟨h64, hw⟩ := if_some hw
    subst hw
    have e2 := r1.ints hi
    subst e2
    refine .inl ⟨q, is, rfl, sq, by unfold scanBound; omega, fun p1 n1 hp1 hn1 => ⟨p1, _, n1, rfl, upd_same, fun ks nd hm hl => ?_⟩⟩
    have pm : ks.Perm (sortU is) := (List.perm_ext_iff_of_nodup nd ((sortU_sorted is).imp fun z => by omega)).mpr fun z => by rw [hm, sortU_mem]; simp
    refine an _ _ (same_new hp1) (.d ?_)
    rw [← hl, pm.length_eq]
    exact .int _
  · cases hw
theorem s_ss {p2 pos2 : Pos} {bb : B1} {y : Str} (tk : TOk T kw) (xo : XOk T Nm sc Fn Ex X) (ha : Snd T Ex X a pa) (hs : star pa = false) (hg : glB sc (b1N bb) = true) (hi : b1In bb = some y) (hg2 : glB sc y = true) (hb : bb ≠ .listRange) : Snd T Ex X (.b1 bb a) (.Call (.Name (b1N bb) p) [.Call (.Name y p2) [pa] [] pos2] [] pos) := by
  have go : ∀ {f : W → Option W}, (∀ x, b1W bb x = f x) → PE X (.Call (.Name (b1N bb) p) [.Call (.Name y p2) [pa] [] pos2] [] pos) (tSS T f (rdE T Ex true a)) → Snd T Ex X (.b1 bb a) (.Call (.Name (b1N bb) p) [.Call (.Name y p2) [pa] [] pos2] [] pos) := fun {f} hf h =>
    .plain (fun _ => rfl) (PE.weak h fun σ H Q ⟨c, N, Oi, B, O, r, env, q⟩ => by
      unfold evE at q
      refine rd1 env q fun x n v H1 f1 env1 rb q1 => ?_
      obtain ⟨w, hw, q2⟩ := opt_wp q1
      rw [hf] at hw
      exact ⟨c, O, true, x, w, env1.at, rb, hw, fin_ans env1 f1 q2⟩) (by intro _; rfl)
  cases bb with
  | listRange => exact absurd rfl hb
  | tupRange => cases hi; exact s_tr tk xo ha hs hg hg2
  | sortedSet => cases hi; exact go (fun _ => rfl) (pe_ss tk xo ha.pt hs hg hg2)
  | lenSet => cases hi; exact go (fun _ => rfl) (pe_ls tk xo ha.pt hs hg hg2)
  | _ => cases hi
theorem s_isi {t : Ty} {pt : Expr} (tk : TOk T kw) (xo : XOk T Nm sc Fn Ex X) (ha : Snd T Ex X a pa) (hs : star pa = false) (hg : glB sc "isinstance" = true) (ht : tyX sc t pt = true) : Snd T Ex X (.isi a t) (.Call (.Name "isinstance" p) [pa, pt] [] pos) := by
  unfold tyX at ht
  split at ht
  · rename_i y py
    simp only [Bool.and_eq_true, decide_eq_true_eq] at ht
    obtain ⟨rfl, hg2⟩ := ht
    refine .plain (fun _ => rfl) ?_ (by intro _; rfl)
    have hty : PE X (.Name (Str.ofString (tyN t)) py) (tC (.ty (tyN t))) := by
      have G := gl_of xo hg2
      cases t <;> exact pe_bltn (u := .type (tyN _)) G (mgn tk xo (by decide)) (by decide +kernel) rfl (by decide) (by decide)
    have hst : starEach [.Name (Str.ofString (tyN t)) py] X.env = [(false, eval (.Name (Str.ofString (tyN t)) py) X.env)] := rfl
    refine PE.weak (pe_callB (call_isi_w (T := T) t xo.hK) (gl_of xo hg) (mgn tk xo (by decide)) (by decide +kernel) (pa_cons ha.pt (pa_cons hty pa_nil rfl) (star_each hs)) (by decide) (by decide) (star_each hs) rfl) fun σ H Q ⟨c, N, Oi, B, O, r, env, q⟩ => ?_
    unfold evE at q
    refine rd1 env q fun x n v H1 f1 env1 rb q1 => ?_
    obtain ⟨k, hk, q2⟩ := opt_wp (M.wp_bind.mp q1)
    exact ⟨v, c, O, true, x, k, rfl, rb, hk, (fin_ans env1 f1 q2).bool⟩
  · cases ht
end
end DS

set_option Elab.async false
set_option linter.all false
set_option autoImplicit false
set_option maxRecDepth 100000
set_option maxHeartbeats 4000000
/-! DS11: what loops walk. -/
namespace DS
open PySem PySem.Spec PySem.SeqAt PyProof.Rows L2
/-- the iterator J yields the items ws, whatever is made or changed that is not seen -/
structure JOk (T : Stc) (c : StA) (G : Hp) (J : L2.It) (ws : List W) : Prop where
  go : ∀ (i : Nat) O' H, Same G (hide O' H) → i < ws.length → J.go i H
  yl : ∀ (i : Nat) O' H x H', i < ws.length → Same G (hide O' H) → (∀ b ∈ O', ∃ o, H b = some o) → J.yld i H x H' → ∃ w, ws[i]? = some w ∧ Same H H' ∧ RW T.K T.fa c (hide O' H') x w
  st : ∀ (i : Nat) O' H, Same G (hide O' H) → ws.length = i → J.stop i H
def FinI (T : Stc) (c : StA) (O : List Addr) (H : Hp) (R : L2.It → Hp → Prop) : List W → Nat → Prop := fun ws n => ∀ J H1, Fr c H H1 → StOk c n H1 → JOk T c (hide O H1) J ws → R J H1
def rdI (T : Stc) (Ex : XK) (it : It) : TI := fun σ H R => ∃ c N Oi B O r, EOk T c N Oi B O H σ r ∧ (evI T.fs T.gs r it).wp N (FinI T c O H R) (EX T Ex c O H)
theorem PI.weak {X : Cx} {tg pe : Expr} {t t' : TI} (h : PI X tg pe t) (i : ∀ σ H R, t' σ H R → t σ H R) : PI X tg pe t' := ⟨fun pins s σ H R I q => h.run pins s σ H R I (i σ H R q)⟩
section
variable {T : Stc} {Ex : XK} {X : Cx} {e a b d : E} {tg pe pa pb pd : Expr} {pos p : Pos} {c : StA} {O Oi : List Addr} {G H H1 B : Hp} {N n : Nat} {σ : L2.St} {r : Env} {x : Str} {R : L2.It → Hp → Prop}
  {kw : List (Nat × Nat × List Str × List Nat)} {Nm : List Str} {sc : Scope} {Fn : Str → Bool}
theorem sqL_same {K : Frag} {H H' : Hp} {a : Addr} {xs : List V} (e : Same H H') (h : H a = some (.lst xs)) : SqL K H' a xs := .inl (.inl (e _ _ h))
theorem rds_map {K : Frag} {xs : List V} {ds : List PyData} {i : Nat} {v : V} {fa : Nat → Addr} (h : RDs K G xs ds) (e : xs[i]? = some v) : ∃ w, (ds.map W.d)[i]? = some w ∧ RW K fa c G v w := by
  obtain ⟨d, h1, h2⟩ := h.get' e
  exact ⟨.d d, by rw [List.getElem?_map, h1]; rfl, .d h2⟩
theorem get_lt {α : Type} {xs : List α} {i : Nat} (h : i < xs.length) : ∃ x, xs[i]? = some x := ⟨_, List.getElem?_eq_getElem h⟩
theorem j_list {l : Addr} {xs : List V} {ds : List PyData} (hl : G l = some (.lst xs)) (hr : RDs T.K G xs ds) : JOk T c G (Itl T.K l) (ds.map .d) where
  go := fun i O' H s hi => by
    obtain ⟨x, hx⟩ := get_lt (xs := xs) (i := i) (by rw [hr.len]; simpa using hi)
    exact ⟨xs, x, sqL_same (s.trans hide_le) hl, hx⟩
  yl := fun i O' H x H' hi s ht ⟨e, h⟩ => by
    subst e
    obtain ⟨w, h1, h2⟩ := rds_map (fa := T.fa) (c := c) hr (h xs (sqL_same (s.trans hide_le) hl))
    exact ⟨w, h1, Same.refl _, h2.mono s⟩
  st := fun i O' H s hi' => have hi := Nat.le_of_eq hi'; ⟨xs, sqL_same (s.trans hide_le) hl, by rw [hr.len]; simpa using hi⟩
theorem j_tup {l : Addr} {xs : List V} {ds : List PyData} (hl : SqT T.K G l xs) (hr : RDs T.K G xs ds) : JOk T c G (Itt T.K l) (ds.map .d) where
  go := fun i O' H s hi => by
    obtain ⟨x, hx⟩ := get_lt (xs := xs) (i := i) (by rw [hr.len]; simpa using hi)
    exact ⟨xs, x, sqT_same (s.trans hide_le) hl, hx⟩
  yl := fun i O' H x H' hi s ht ⟨e, h⟩ => by
    subst e
    obtain ⟨w, h1, h2⟩ := rds_map (fa := T.fa) (c := c) hr (h xs (sqT_same (s.trans hide_le) hl))
    exact ⟨w, h1, Same.refl _, h2.mono s⟩
  st := fun i O' H s hi' => have hi := Nat.le_of_eq hi'; ⟨xs, sqT_same (s.trans hide_le) hl, by rw [hr.len]; simpa using hi⟩
theorem j_rng {lo : Int} {m : Nat} : JOk T c G (Itr lo m) ((List.range m).map fun (k : Nat) => W.i (lo + (k : Int))) where
  go := fun i O' H s hi => show i < m by simpa using hi
  yl := fun i O' H x H' hi s ht ⟨e, h⟩ => by
    subst e
    subst h
    refine ⟨W.i (lo + (i : Int)), ?_, Same.refl _, .d (.int _)⟩
    have hi : i < m := by simpa using hi
    rw [List.getElem?_map, List.getElem?_range hi]
    rfl
  st := fun i O' H s hi' => have hi := Nat.le_of_eq hi'; show m ≤ i by simpa using hi
theorem rev_get {α : Type} {xs : List α} {i : Nat} (h : i < xs.length) : xs.reverse[i]? = xs[xs.length - 1 - i]? := List.getElem?_reverse h
theorem j_revL {l : Addr} {xs : List V} {ds : List PyData} (hl : G l = some (.lst xs)) (hr : RDs T.K G xs ds) : JOk T c G (Itv T.K l xs.length) (ds.reverse.map .d) where
  go := fun i O' H s hi => by
    have hi : i < xs.length := by rw [hr.len]; simpa using hi
    obtain ⟨x, hx⟩ := get_lt (xs := xs) (i := xs.length - 1 - i) (by omega)
    exact ⟨hi, xs, x, sqL_same (s.trans hide_le) hl, hx⟩
  yl := fun i O' H x H' hi s ht ⟨e, h⟩ => by
    subst e
    have hi : i < xs.length := by rw [hr.len]; simpa using hi
    obtain ⟨w, h1, h2⟩ := hr.get' (h xs (sqL_same (s.trans hide_le) hl))
    refine ⟨.d w, ?_, Same.refl _, (RW.d h2).mono s⟩
    rw [List.getElem?_map, rev_get (by rw [← hr.len]; exact hi), ← hr.len, h1]
    rfl
  st := fun i O' H s hi' => have hi := Nat.le_of_eq hi'; show xs.length ≤ i by rw [hr.len]; simpa using hi
theorem j_revT {l : Addr} {xs : List V} {ds : List PyData} (hl : SqT T.K G l xs) (hr : RDs T.K G xs ds) : JOk T c G (RT.ItvT T.K l xs.length) (ds.reverse.map .d) where
  go := fun i O' H s hi => by
    have hi : i < xs.length := by rw [hr.len]; simpa using hi
    obtain ⟨x, hx⟩ := get_lt (xs := xs) (i := xs.length - 1 - i) (by omega)
    exact ⟨hi, xs, x, sqT_same (s.trans hide_le) hl, hx⟩
  yl := fun i O' H x H' hi s ht ⟨e, h⟩ => by
    subst e
    have hi : i < xs.length := by rw [hr.len]; simpa using hi
    obtain ⟨w, h1, h2⟩ := hr.get' (h xs (sqT_same (s.trans hide_le) hl))
    refine ⟨.d w, ?_, Same.refl _, (RW.d h2).mono s⟩
    rw [List.getElem?_map, rev_get (by rw [← hr.len]; exact hi), ← hr.len, h1]
    rfl
  st := fun i O' H s hi' => have hi := Nat.le_of_eq hi'; show xs.length ≤ i by rw [hr.len]; simpa using hi
theorem enum_get {ds : List PyData} {i : Nat} : (enumD ds)[i]? = (ds[i]?).map fun d => W.d (.tuple [.int (i : Nat), d]) := by
  unfold enumD
  rw [List.getElem?_map, List.getElem?_zipIdx]
  cases ds[i]? with
  | none => rfl
  | some d => simp
theorem enum_len {ds : List PyData} : (enumD ds).length = ds.length := by unfold enumD; simp
/-- a new pair -/
theorem pair_new {O' : List Addr} {q : Addr} {v1 v2 : V} {d1 d2 : PyData} {fa : Nat → Addr} (hq : H q = none) (ht : ∀ b ∈ O', ∃ o, H b = some o) (h1 : RD T.K (hide O' H) v1 d1) (h2 : RD T.K (hide O' H) v2 d2) : RW T.K fa c (hide O' (upd H q (.tup [v1, v2]))) (.ref q) (.d (.tuple [d1, d2])) := by
  have hO : q ∉ O' := fun z => by
    obtain ⟨o, ho⟩ := ht q z
    rw [hq] at ho; cases ho
  exact mk_tup hq hO (.cons h1 (.cons h2 .nil))
theorem j_enumL {l : Addr} {xs : List V} {ds : List PyData} (hl : G l = some (.lst xs)) (hr : RDs T.K G xs ds) : JOk T c G (Ite T.K l) (enumD ds) where
  go := fun i O' H s hi => by
    obtain ⟨x, hx⟩ := get_lt (xs := xs) (i := i) (by rw [hr.len]; rwa [enum_len] at hi)
    exact ⟨xs, x, sqL_same (s.trans hide_le) hl, hx⟩
  yl := fun i O' H x H' hi s ht ⟨q, y, e1, hq, e2, h⟩ => by
    subst e1 e2
    obtain ⟨d, h1, h2⟩ := hr.get' (h xs (sqL_same (s.trans hide_le) hl))
    exact ⟨.d (.tuple [.int (i : Nat), d]), by rw [enum_get, h1]; rfl, same_new hq, pair_new hq ht (.int _) (RD.mono s _ _ h2)⟩
  st := fun i O' H s hi' => have hi := Nat.le_of_eq hi'; ⟨xs, sqL_same (s.trans hide_le) hl, by rw [hr.len]; rwa [enum_len] at hi⟩
theorem zip_get {ds es : List PyData} {i : Nat} {d e : PyData} (h1 : ds[i]? = some d) (h2 : es[i]? = some e) : ((ds.zip es).map fun p => W.d (.tuple [p.1, p.2]))[i]? = some (W.d (.tuple [d, e])) := by
  rw [List.getElem?_map]
  have : (ds.zip es)[i]? = some (d, e) := by rw [List.getElem?_zip_eq_some]; exact ⟨h1, h2⟩
  rw [this]
  rfl
theorem j_zipL {l m : Addr} {xs ys : List V} {ds es : List PyData} (hl : G l = some (.lst xs)) (hr : RDs T.K G xs ds) (hm : G m = some (.lst ys)) (hs : RDs T.K G ys es) : JOk T c G (Itz T.K l m) ((ds.zip es).map fun p => W.d (.tuple [p.1, p.2])) where
  go := fun i O' H s hi => by
    have hi : i < ds.length ∧ i < es.length := by
      simp at hi
      omega
    obtain ⟨x, hx⟩ := get_lt (xs := xs) (i := i) (by rw [hr.len]; exact hi.1)
    obtain ⟨y, hy⟩ := get_lt (xs := ys) (i := i) (by rw [hs.len]; exact hi.2)
    exact ⟨xs, ys, x, y, sqL_same (s.trans hide_le) hl, sqL_same (s.trans hide_le) hm, hx, hy⟩
  yl := fun i O' H x H' hi s ht ⟨q, y, z, e1, hq, e2, g1, g2⟩ => by
    subst e1 e2
    obtain ⟨d, h1, h2⟩ := hr.get' (g1 xs (sqL_same (s.trans hide_le) hl))
    obtain ⟨e, h3, h4⟩ := hs.get' (g2 ys (sqL_same (s.trans hide_le) hm))
    exact ⟨_, zip_get h1 h3, same_new hq, pair_new hq ht (RD.mono s _ _ h2) (RD.mono s _ _ h4)⟩
  st := fun i O' H s hi' => have hi := Nat.le_of_eq hi'; ⟨xs, ys, sqL_same (s.trans hide_le) hl, sqL_same (s.trans hide_le) hm, by rw [hr.len, hs.len]; simp at hi; omega⟩
theorem j_zipT {l m : Addr} {xs ys : List V} {ds es : List PyData} (hl : SqT T.K G l xs) (hr : RDs T.K G xs ds) (hm : SqT T.K G m ys) (hs : RDs T.K G ys es) : JOk T c G (RZ.ItzT T.K l m) ((ds.zip es).map fun p => W.d (.tuple [p.1, p.2])) where
  go := fun i O' H s hi => by
    have hi : i < ds.length ∧ i < es.length := by
      simp at hi
      omega
    obtain ⟨x, hx⟩ := get_lt (xs := xs) (i := i) (by rw [hr.len]; exact hi.1)
    obtain ⟨y, hy⟩ := get_lt (xs := ys) (i := i) (by rw [hs.len]; exact hi.2)
    exact ⟨xs, ys, x, y, sqT_same (s.trans hide_le) hl, sqT_same (s.trans hide_le) hm, hx, hy⟩
  yl := fun i O' H x H' hi s ht ⟨q, y, z, e1, hq, e2, g1, g2⟩ => by
    subst e1 e2
    obtain ⟨d, h1, h2⟩ := hr.get' (g1 xs (sqT_same (s.trans hide_le) hl))
    obtain ⟨e, h3, h4⟩ := hs.get' (g2 ys (sqT_same (s.trans hide_le) hm))
    exact ⟨_, zip_get h1 h3, same_new hq, pair_new hq ht (RD.mono s _ _ h2) (RD.mono s _ _ h4)⟩
  st := fun i O' H s hi' => have hi := Nat.le_of_eq hi'; ⟨xs, ys, sqT_same (s.trans hide_le) hl, sqT_same (s.trans hide_le) hm, by rw [hr.len, hs.len]; simp at hi; omega⟩

/-! ### the text's iterables -/
theorem rw_lst {v : V} {ds : List PyData} (h : RW T.K T.fa c G v (.d (.list ds))) : ∃ a xs, v = .ref a ∧ G a = some (.lst xs) ∧ RDs T.K G xs ds := by
  cases h with | d h => cases h with | lst h1 h2 => exact ⟨_, _, rfl, h1, h2⟩
theorem rw_tup {v : V} {ds : List PyData} (h : RW T.K T.fa c G v (.d (.tuple ds))) : ∃ a xs, v = .ref a ∧ SqT T.K G a xs ∧ RDs T.K G xs ds := by
  cases h with | d h => cases h with | tup h1 h2 => exact ⟨_, _, rfl, h1, h2⟩
theorem fin_it {J : L2.It} {ws : List W} (env : EOk T c n Oi B O H1 σ r) (f : Fr c H H1) (h : FinI T c O H R ws n) (j : JOk T c (hide O H1) J ws) : R J H1 := h J H1 f env.st j
/-- a list or a tuple, as the value is -/
theorem i_of (xo : XOk T Nm sc Fn Ex X) (ha : Snd T Ex X a pa) : PI X tg pa (rdI T Ex (.of a)) := by
  refine ⟨fun pins s σ H R I ⟨c, N, Oi, B, O, r, env, q⟩ => ?_⟩
  unfold evI at q
  refine thn (ha.pf.run pins s σ H (fun x H1 => ∃ l xs, x = .ref l ∧ ((SqL X.K H1 l xs ∧ R (Itl X.K l) H1) ∨ (SqT X.K H1 l xs ∧ R (Itt X.K l) H1))) I (rd1 env q fun x n v H1 f1 env1 rb q1 => ?_)) fun v s1 hq => ?_
  · obtain ⟨ws, hw, q2⟩ := opt_wp q1
    rw [xo.hK]
    unfold itOf at hw
    split at hw
    · cases hw
      obtain ⟨l, xs, e, h1, h2⟩ := rw_lst rb.plain
      exact ⟨l, xs, e, .inl ⟨.inl (.inl (hide_le _ _ h1)), fin_it env1 f1 q2 (j_list h1 h2)⟩⟩
    · cases hw
      obtain ⟨l, xs, e, h1, h2⟩ := rw_tup rb.plain
      exact ⟨l, xs, e, .inr ⟨sqT_same hide_le h1, fin_it env1 f1 q2 (j_tup h1 h2)⟩⟩
    · cases hw
  · obtain ⟨x, H1, I1, r1, l, xs, rfl, hq⟩ := hq
    cases r1
    have fp : ∀ b ∈ [s1.heap.objs.size], FpOk X pins H1 b := fun b hb => by
      have e : b = s1.heap.objs.size := by simpa using hb
      subst e
      exact I1.fpOk (Nat.le_refl _) (I1.hok.fresh (Nat.le_refl _))
    rcases hq with ⟨h1, h2⟩ | ⟨h1, h2⟩
    · obtain ⟨its, rv, p, hz⟩ := I1.list h1
      exact wpAny_pyIter_list p.isList ⟨s1.heap.objs.size, [s1.heap.objs.size], _, _, H1, rfl, I1.kept (t' := s1.toks) fun b o e => Heap.get?_push_of_some _ e, turn_list l _, ⟨_, Heap.get?_push_size _ rfl, rfl, rfl⟩, fp, h2⟩
    · obtain ⟨its, rv, p, hz⟩ := I1.tuple h1
      exact wpAny_pyIter_tuple (show s1.heap.IsTuple l its.toArray from p) ⟨s1.heap.objs.size, [s1.heap.objs.size], _, _, H1, rfl, I1.kept (t' := s1.toks) fun b o e => Heap.get?_push_of_some _ e, turn_tuple l _, ⟨_, Heap.get?_push_size _ rfl, rfl, rfl⟩, fp, h2⟩
theorem i_rng1 (tk : TOk T kw) (xo : XOk T Nm sc Fn Ex X) (ha : Snd T Ex X a pa) (hs : star pa = false) (hg : glB sc "range" = true) : PI X tg (.Call (.Name "range" p) [pa] [] pos) (rdI T Ex (.rng1 a)) :=
  PI.weak (pi_range1 (gl_of xo hg) (mgn tk xo (by decide)) (pa_cons ha.pf pa_nil (star_each hs)) (star_each hs)) fun σ H R ⟨c, N, Oi, B, O, r, env, q⟩ => by
    unfold evI at q
    refine rd1 env q fun x n v H1 f1 env1 rb q1 => ?_
    obtain ⟨j, hj, q2⟩ := opt_wp (M.wp_bind.mp q1)
    obtain ⟨ws, hw, q3⟩ := opt_wp q2
    rw [wInt_some hj] at rb
    obtain ⟨⟨h1, h2, h3, h4⟩, hw⟩ := if_some (show (if _ then _ else _) = _ from hw)
    subst hw
    refine ⟨j, by rw [rb.int], h3, h4, ?_⟩
    have := fin_it env1 f1 q3 (j_rng (lo := 0))
    rwa [Int.sub_zero] at this
theorem i_rng2 (tk : TOk T kw) (xo : XOk T Nm sc Fn Ex X) (ha : Snd T Ex X a pa) (hs : star pa = false) (hb : Snd T Ex X b pb) (hs2 : star pb = false) (hg : glB sc "range" = true) : PI X tg (.Call (.Name "range" p) [pa, pb] [] pos) (rdI T Ex (.rng2 a b)) :=
  PI.weak (pi_range2 (gl_of xo hg) (mgn tk xo (by decide)) (pa_cons ha.pf (pa_cons hb.pf pa_nil (star_each hs2)) (star_each hs)) (by rw [star_each hs, star_each hs2]; rfl) (star_each hs2)) fun σ H R ⟨c, N, Oi, B, O, r, env, q⟩ => by
    unfold evI at q
    refine rd1 env q fun x n v H1 f1 env1 rb q1 => rd1 env1 q1 fun y n2 v2 H2 f2 env2 rb2 q2 => ?_
    obtain ⟨i, hi, q3⟩ := opt_wp (M.wp_bind.mp q2)
    obtain ⟨j, hj, q4⟩ := opt_wp (M.wp_bind.mp q3)
    obtain ⟨ws, hw, q5⟩ := opt_wp q4
    rw [wInt_some hi] at rb
    rw [wInt_some hj] at rb2
    obtain ⟨hh, hw⟩ := if_some (show (if _ then _ else _) = _ from hw)
    subst hw
    exact ⟨i, j, by rw [rb.int, rb2.int], hh, fin_it env2 (f1.trans f2) q5 j_rng⟩
theorem i_rev (tk : TOk T kw) (xo : XOk T Nm sc Fn Ex X) (ha : Snd T Ex X a pa) (hs : star pa = false) (hg : glB sc "reversed" = true) : PI X tg (.Call (.Name "reversed" p) [pa] [] pos) (rdI T Ex (.rev a)) :=
  PI.weak (RT.pi_revA (gl_of xo hg) (mgn tk xo (by decide)) ha.pf (star_each hs)) fun σ H R ⟨c, N, Oi, B, O, r, env, q⟩ => by
    unfold evI at q
    refine rd1 env q fun x n v H1 f1 env1 rb q1 => ?_
    obtain ⟨ws, hw, q2⟩ := opt_wp q1
    rw [xo.hK]
    unfold itRev at hw
    split at hw
    · cases hw
      obtain ⟨l, xs, e, h1, h2⟩ := rw_lst rb.plain
      exact ⟨l, xs, e, .inl ⟨.inl (.inl (hide_le _ _ h1)), fin_it env1 f1 q2 (j_revL h1 h2)⟩⟩
    · cases hw
      obtain ⟨l, xs, e, h1, h2⟩ := rw_tup rb.plain
      exact ⟨l, xs, e, .inr ⟨sqT_same hide_le h1, fin_it env1 f1 q2 (j_revT h1 h2)⟩⟩
    · cases hw
theorem i_zip {elts : List Expr} {kk : Nat} {tpos : Pos} (tk : TOk T kw) (xo : XOk T Nm sc Fn Ex X) (ha : Snd T Ex X a pa) (hs : star pa = false) (hb : Snd T Ex X b pb) (hs2 : star pb = false) (hg : glB sc "zip" = true) :
    PI X (.Tuple elts kk tpos) (.Call (.Name "zip" p) [pa, pb] [] pos) (rdI T Ex (.zip a b)) :=
  PI.weak (RZ.pi_zipA (gl_of xo hg) (mgn tk xo (by decide)) (pa_cons ha.pf (pa_cons hb.pf pa_nil (star_each hs2)) (star_each hs)) (star_each hs) (star_any fun q hq => by simp at hq; subst hq; exact hs2)) fun σ H R ⟨c, N, Oi, B, O, r, env, q⟩ => by
    unfold evI at q
    refine rd1 env q fun x n v H1 f1 env1 rb q1 => rd1 env1 q1 fun y n2 v2 H2 f2 env2 rb2 q2 => ?_
    obtain ⟨ws, hw, q3⟩ := opt_wp q2
    have rb1 := (rb.step f2 env1.sO' env1.lO' env1.trk).plain
    rw [xo.hK]
    unfold itZip at hw
    split at hw
    · cases hw
      obtain ⟨l, xs, e, h1, h2⟩ := rw_lst rb1
      obtain ⟨l2, ys, e2, h3, h4⟩ := rw_lst rb2.plain
      exact ⟨l, l2, xs, ys, by rw [e, e2], .inl ⟨.inl (.inl (hide_le _ _ h1)), .inl (.inl (hide_le _ _ h3)), fin_it env2 (f1.trans f2) q3 (j_zipL h1 h2 h3 h4)⟩⟩
    · cases hw
      obtain ⟨l, xs, e, h1, h2⟩ := rw_tup rb1
      obtain ⟨l2, ys, e2, h3, h4⟩ := rw_tup rb2.plain
      exact ⟨l, l2, xs, ys, by rw [e, e2], .inr ⟨sqT_same hide_le h1, sqT_same hide_le h3, fin_it env2 (f1.trans f2) q3 (j_zipT h1 h2 h3 h4)⟩⟩
    · cases hw
end
end DS

set_option Elab.async false
set_option linter.all false
set_option autoImplicit false
set_option maxRecDepth 100000
set_option maxHeartbeats 4000000
/-! DS12: enumerate over a tuple. -/
namespace DS
open PySem PySem.Spec PySem.SeqAt PyProof.Rows L2 PySem.W
theorem enum_cell {hp : Heap} {o : Obj} (hf : o.isFreed = false) : IsEnum ((hp.push o).push { cls := .type "enumerate", data := .fields #[.none, .bool false, .ref hp.objs.size, rawInt 0, .none, .none] }) (hp.objs.size + 1) hp.objs.size 0 .none := by
  have hz : (hp.push o).objs.size = hp.objs.size + 1 := Heap.size_push ..
  have e := Heap.get?_push_size (hp.push o) (o := { cls := .type "enumerate", data := .fields #[.none, .bool false, .ref hp.objs.size, rawInt 0, .none, .none] }) rfl
  rw [hz] at e
  exact e
theorem enum_made {v : Value} {o : Obj} {J : Heap → Prop} (B : Begins v o J) :
    Meets (Builtin.«enumerate.__new__» ⟨[.type "enumerate", v], []⟩) (fun _ R s => J s.heap ∧ R (.ok (.ret (.ref (s.heap.objs.size + 1)))) { s with heap := (s.heap.push o).push { cls := .type "enumerate", data := .fields #[.none, .bool false, .ref s.heap.objs.size, rawInt 0, .none, .none] } }) := by
  refine .of_wp fun prog w A R s h => ?_
  obtain ⟨hp, g, dr, tk, os⟩ := s
  obtain ⟨h1, h⟩ := h
  have hz : (hp.push o).objs.size = hp.objs.size + 1 := Heap.size_push ..
  have hsub := sub_enumerate
  have q1 : ∀ {A' : Around} {E Q : Value → Shared → Prop}, Q (.ref hp.objs.size) ⟨hp.push o, g, dr, tk, os⟩ → wpAny (model prog w) A' (pyIter v) Q E ⟨hp, g, dr, tk, os⟩ := fun q => B.iter prog w _ _ _ _ h1 q
  have h2 : R (.ok (.ret (.ref (hp.push o).objs.size))) ⟨(hp.push o).push { cls := .type "enumerate", data := .fields #[.none, .bool false, .ref hp.objs.size, rawInt 0, .none, .none] }, g, dr, tk, os⟩ := by rw [hz]; exact h
  wp_walk using q1
  refine wpAny_stack_any fun st => wpAny_pure ?_
  split
  · rename_i cc _ _ _ _ _
    cases (cc == Value.type "enumerate") <;> (wp_walk using q1; exact ⟨_, rfl, h2⟩)
  · wp_walk using q1; exact ⟨_, rfl, h2⟩
theorem enum_call {prog : Program} {w : World} {A : Around} {E : Value → Shared → Prop} {s : Shared} {v : Value} {o : Obj} {J : Heap → Prop} {Q : Value → Shared → Prop} (B : Begins v o J) (hJ : J s.heap)
    (h : ∀ h', IsEnum h' (s.heap.objs.size + 1) s.heap.objs.size 0 .none → h'.get? s.heap.objs.size = some o → (∀ b u, s.heap.get? b = some u → h'.get? b = some u) → Q (.ref (s.heap.objs.size + 1)) { s with heap := h' }) :
    wpAny (model prog w) A (call (.type "enumerate") [v]) Q E s := by
  refine callType_new F.called_enumerate (by decide) (F.typeCall_enumerate_1 _) (F.newCall_enumerate_1 _) (fun obj => F.args_object_init_2 obj _) F.entry_enumerate_new (enum_made B) ⟨hJ, ?_⟩
  have he := enum_cell (hp := s.heap) B.free
  exact ⟨⟨_, he, rfl⟩, h _ he (Heap.get?_push_of_some _ (Heap.get?_push_size _ B.free)) fun b u x => Heap.get?_push_of_some _ (Heap.get?_push_of_some _ x)⟩
def IteT (K : Frag) (a : Addr) : L2.It :=
  ⟨fun i H => ∃ (xs : List V) (x : V), SqT K H a xs ∧ xs[i]? = some x, fun i H v H' => ∃ q x, v = .ref q ∧ H q = none ∧ H' = upd H q (.tup [.int (i : Nat), x]) ∧ ∀ xs, SqT K H a xs → xs[i]? = some x, fun i H => ∃ xs : List V, SqT K H a xs ∧ xs.length = i⟩
theorem apart_cls {h : Heap} {a b : Addr} {o u : Obj} (h1 : h.get? a = some o) (h2 : h.get? b = some u) (hc : o.cls ≠ u.cls) : a ≠ b := fun e => by
  subst e
  rw [h1] at h2
  cases h2
  exact hc rfl
theorem turn_enumT {P : Program} {w : World} {K : Frag} {elts : List Expr} {kk : Nat} {tpos : Pos} (a e it : Addr) :
    Turn P w K (.Tuple elts kk tpos) (IteT K a) [e, it] e (fun i h => (∃ old, IsEnum h e it ((i : Nat) : Int) old) ∧ h.IsTupleIter it a i ∧ e ≠ it) where
  mem := by simp
  obj := fun i h st b hb => by
    obtain ⟨⟨old, he⟩, ⟨o, ho, hc, hd⟩, _⟩ := st
    have hb : b = e ∨ b = it := by simpa using hb
    rcases hb with rfl | rfl
    · exact ⟨_, he, fun v q => nomatch q⟩
    · exact ⟨o, ho, fun v q => by rw [hd] at q; cases q⟩
  keep := fun i h h' st k => by
    obtain ⟨⟨old, he⟩, hi, hne⟩ := st
    exact ⟨⟨old, k e (by simp) _ he⟩, hi.at fun o q => k it (by simp) o q, hne⟩
  item := by
    intro X hP hw hK hc i pins s σ H E I hf st hg
    subst hP hw hK
    obtain ⟨⟨old, he⟩, hit, hne⟩ := st
    obtain ⟨xs, x, hq, hx⟩ := hg
    obtain ⟨its, rv, p, hz⟩ := I.tuple hq
    have p : s.heap.IsTuple a its.toArray := p
    have hl := rv.length
    have hil : i < its.toArray.size := by
      have := (List.getElem?_eq_some_iff.mp hx).1
      simp; omega
    obtain ⟨oa, hoa, hca, _⟩ := id p
    obtain ⟨oi, hoi, hci, _⟩ := id hit
    have n1 : a ≠ it := apart_cls hoa hoi (by rw [hca, hci]; decide)
    have n2 : e ≠ a := apart_cls (show s.heap.get? e = some _ from he) hoa (by rw [hca]; show Value.type "enumerate" ≠ Value.type "tuple"; decide)
    have hel : e < s.heap.objs.size := Heap.lt_size he
    have hitl : it < s.heap.objs.size := Heap.lt_size hoi
    refine wpAny_pyNext_enum_itemD (Draws.tuple (A := X.A.in1) (I.ok.hd hc) it a n1 its.toArray) he ⟨hit, p⟩ hil hne (by simp [hne, n2]) fun u h' tk pu ho' st' hT hsz hk => ?_
    obtain ⟨v, hv, ru⟩ : ∃ v, xs[i]? = some v ∧ RelV v u := by
      obtain ⟨u2, h2, r2⟩ := rv.get hx
      have : u2 = u := Option.some.inj (h2.symm.trans (by simpa using pu))
      exact ⟨x, hx, this ▸ r2⟩
    refine ⟨_, rfl, wpAny_letOwnedTupleGo_enum (s := { s with heap := h', toks := tk + 1 }) ho' fun h2 he2 sb => ?_⟩
    have hT2 : h2.get? s.heap.objs.size = some { cls := .type "tuple", data := .seq #[.int i tk, u] } := (sb.2 _ (Nat.ne_of_gt hel)).trans hT
    have new : ObjOk X.prog X.w (upd H s.heap.objs.size (.tup [.int (i : Nat), v])) h2 s.heap.objs.size (.tup [.int (i : Nat), v]) :=
      ⟨by show 2 ≤ sizeLine; decide, [.int i tk, u], .cons ⟨_, rfl⟩ (.cons ru .nil), ⟨_, hT2, rfl, _, rfl⟩⟩
    have I1 : Inv X pins σ (upd H s.heap.objs.size (.tup [.int (i : Nat), v])) { s with heap := h2, toks := tk + 1 } :=
      I.turnedNew (ch := [e, it]) (fun b ob hb q => (sb.2 b (fun z => hb (by simp [z]))).trans (hk b ob (fun z => hb (by simp [z])) (fun z => hb (by simp [z])) q)) hf (Nat.le_refl _) new
    refine ⟨.ref s.heap.objs.size, _, I1, rfl, ⟨_, v, rfl, I.hok.fresh (Nat.le_refl _), rfl, fun ys hy => by rw [I.tuple_inj hy hq]; exact hv⟩, ⟨⟨u, ?_⟩, st'.1.at fun o q => (sb.2 it (Ne.symm hne)).trans q, hne⟩, fun b hb => ?_⟩
    · rw [show ((i + 1 : Nat) : Int) = (i : Int) + 1 by omega]
      exact he2
    · have hb2 : b < s.heap.objs.size := by
        have hb : b = e ∨ b = it := by simpa using hb
        rcases hb with rfl | rfl
        · exact hel
        · exact hitl
      rw [upd_ne (Nat.ne_of_lt hb2)]
      exact (hf b hb).1
  done := by
    intro X hP hw hK hc i pins s σ H E I hf st hg
    subst hP hw hK
    obtain ⟨⟨old, he⟩, hit, hne⟩ := st
    obtain ⟨xs, hq, hx⟩ := hg
    obtain ⟨its, rv, p, hz⟩ := I.tuple hq
    have p : s.heap.IsTuple a its.toArray := p
    obtain ⟨f0, f1, f2, f3, f4, f5⟩ := hf it (by simp)
    have hl := rv.length
    obtain ⟨oa, hoa, hca, _⟩ := id p
    obtain ⟨oi, hoi, hci, _⟩ := id hit
    have n1 : a ≠ it := apart_cls hoa hoi (by rw [hca, hci]; decide)
    have hi : i = its.toArray.size := by
      simp; omega
    subst hi
    exact wpAny_pyNext_enum_endD (Draws.tuple (A := X.A.in1) (I.ok.hd hc) it a n1 its.toArray) he ⟨hit, p⟩ fun h' eb => ⟨rfl, I.turned (t' := s.toks) (fun b o hb q => eb b o hb q) f0 f1 f3 f4 f5⟩
  self := fun A i s Q E st h => by
    obtain ⟨⟨_, he⟩, _⟩ := st
    exact wpAny_pyIter_enum he h

section
variable {T : Stc} {Ex : XK} {X : Cx} {a : E} {pa : Expr} {pos p : Pos} {c : StA} {G : Hp} {kw : List (Nat × Nat × List Str × List Nat)} {Nm : List Str} {sc : Scope} {Fn : Str → Bool}
theorem j_enumT {l : Addr} {xs : List V} {ds : List PyData} (hl : SqT T.K G l xs) (hr : RDs T.K G xs ds) : JOk T c G (IteT T.K l) (enumD ds) where
  go := fun i O' H s hi => by
    obtain ⟨x, hx⟩ := get_lt (xs := xs) (i := i) (by rw [hr.len]; rwa [enum_len] at hi)
    exact ⟨xs, x, sqT_same (s.trans hide_le) hl, hx⟩
  yl := fun i O' H x H' hi s ht ⟨q, y, e1, hq, e2, h⟩ => by
    subst e1 e2
    obtain ⟨d, h1, h2⟩ := hr.get' (h xs (sqT_same (s.trans hide_le) hl))
    exact ⟨.d (.tuple [.int (i : Nat), d]), by rw [enum_get, h1]; rfl, same_new hq, pair_new hq ht (.int _) (RD.mono s _ _ h2)⟩
  st := fun i O' H s hi => ⟨xs, sqT_same (s.trans hide_le) hl, by rw [hr.len, ← hi, enum_len]⟩
theorem i_enum {elts : List Expr} {kk : Nat} {tpos : Pos} (tk : TOk T kw) (xo : XOk T Nm sc Fn Ex X) (ha : Snd T Ex X a pa) (hs : star pa = false) (hg : glB sc "enumerate" = true) : PI X (.Tuple elts kk tpos) (.Call (.Name "enumerate" p) [pa] [] pos) (rdI T Ex (.enum a)) := by
  refine ⟨fun pins s σ H R I ⟨c, N, Oi, B, O, r, env, q⟩ => ?_⟩
  unfold evI at q
  have rd : tCons (rdE T Ex false a) tNil σ H fun vs H1 => ∃ l xs, vs = [.ref l] ∧ ((SqL X.K H1 l xs ∧ R (Ite X.K l) H1) ∨ (SqT X.K H1 l xs ∧ R (IteT X.K l) H1)) := rd1 env q fun x n v H1 f1 env1 rb q1 => by
    obtain ⟨ws, hw, q2⟩ := opt_wp q1
    rw [xo.hK]
    unfold itEnum at hw
    split at hw
    · cases hw
      obtain ⟨l, xs, e, h1, h2⟩ := rw_lst rb.plain
      exact ⟨l, xs, by rw [e], .inl ⟨.inl (.inl (hide_le _ _ h1)), fin_it env1 f1 q2 (j_enumL h1 h2)⟩⟩
    · cases hw
      obtain ⟨l, xs, e, h1, h2⟩ := rw_tup rb.plain
      exact ⟨l, xs, by rw [e], .inr ⟨sqT_same hide_le h1, fin_it env1 f1 q2 (j_enumT h1 h2)⟩⟩
    · cases hw
  refine Call_ (ld_blt I (gl_of xo hg) (mgn tk xo (by decide)) boot_enumerate (PyProof.Rows.callWith_type1 (thn ((arg1f ha hs).run pos pins s σ H _ I rd) fun us s1 hq => ?_) (star_each hs) rfl))
  obtain ⟨vs, H1, I1, r1, l, xs, rfl, hq⟩ := hq
  obtain ⟨u, rfl, ru⟩ := vals1 r1
  cases ru
  have fp : ∀ b ∈ [s1.heap.objs.size + 1, s1.heap.objs.size], FpOk X pins H1 b := fun b hb => by
    have hb : b = s1.heap.objs.size + 1 ∨ b = s1.heap.objs.size := by simpa using hb
    have hle : s1.heap.objs.size ≤ b := by rcases hb with z | z <;> rw [z] <;> omega
    exact I1.fpOk hle (I1.hok.fresh hle)
  rcases hq with ⟨h1, h2⟩ | ⟨h1, h2⟩
  · obtain ⟨its, rv, p', hz⟩ := I1.list h1
    refine enum_call (begins_list l its.toArray) p'.isList fun h' he hit hk => wpAny_pyIter_enum he ?_
    exact ⟨s1.heap.objs.size + 1, _, _, _, H1, rfl, I1.kept (t' := s1.toks) hk, turn_enum l (s1.heap.objs.size + 1) s1.heap.objs.size, ⟨⟨.none, he⟩, ⟨_, hit, rfl, rfl⟩, Nat.succ_ne_self _⟩, fp, h2⟩
  · obtain ⟨its, rv, p', hz⟩ := I1.tuple h1
    refine enum_call (begins_tuple l its.toArray) (show s1.heap.IsTuple l its.toArray from p') fun h' he hit hk => wpAny_pyIter_enum he ?_
    exact ⟨s1.heap.objs.size + 1, _, _, _, H1, rfl, I1.kept (t' := s1.toks) hk, turn_enumT l (s1.heap.objs.size + 1) s1.heap.objs.size, ⟨⟨.none, he⟩, ⟨_, hit, rfl, rfl⟩, Nat.succ_ne_self _⟩, fp, h2⟩
end
end DS

set_option Elab.async false
set_option linter.all false
set_option autoImplicit false
set_option maxRecDepth 100000
set_option maxHeartbeats 4000000
/-! DS13: targets, comprehensions. -/
namespace DS
open PySem PySem.Spec PySem.SeqAt PyProof.Rows L2
section
variable {K : Frag} {fa : Nat → Addr} {c : StA} {N N' : Nat} {Oi O : List Addr} {B H H' : Hp} {σ : L2.St} {r : Env}
/-- a name is stored -/
theorem EnvOk.set {i : Nat} {v : V} {w : W} (e : EnvOk K fa c N Oi B O H σ r) (hi : i < r.length) (h : RW K fa c (hide O H) v w) : EnvOk K fa c N Oi B O H (σ.set i (some v)) (r.set i (.sh w)) where
  sub := e.sub
  sO := e.sO
  lO := e.lO
  cB := e.cB
  trk := e.trk
  st := e.st
  fr := e.fr
  len := by simp [e.len]
  sh := fun j u hj => by
    by_cases q : i = j
    · subst q
      rw [List.getElem?_set_self hi] at hj
      cases hj
      exact ⟨v, List.getElem?_set_self (by rw [e.len]; exact hi), h⟩
    · rw [List.getElem?_set_ne q] at hj ⊢
      exact e.sh j u hj
  ow := fun j u hj => by
    by_cases q : i = j
    · subst q
      rw [List.getElem?_set_self hi] at hj
      cases hj
    · rw [List.getElem?_set_ne q] at hj ⊢
      exact e.ow j u hj
  inj := fun j k w1 w2 a h1 h2 h3 h4 => by
    by_cases q : i = j
    · subst q
      rw [List.getElem?_set_self hi] at h1
      cases h1
    · by_cases q2 : i = k
      · subst q2
        rw [List.getElem?_set_self hi] at h2
        cases h2
      · rw [List.getElem?_set_ne q] at h1 h3
        rw [List.getElem?_set_ne q2] at h2 h4
        exact e.inj j k w1 w2 a h1 h2 h3 h4
/-- a name is forgotten -/
theorem EnvOk.drop1 {i : Nat} (e : EnvOk K fa c N Oi B O H σ r) : EnvOk K fa c N Oi B O H (σ.set i none) (r.set i .no) where
  sub := e.sub
  sO := e.sO
  lO := e.lO
  cB := e.cB
  trk := e.trk
  st := e.st
  fr := e.fr
  len := by simp [e.len]
  sh := fun j u hj => by
    by_cases q : i = j
    · subst q
      rw [List.getElem?_set] at hj
      simp at hj
    · rw [List.getElem?_set_ne q] at hj ⊢
      exact e.sh j u hj
  ow := fun j u hj => by
    by_cases q : i = j
    · subst q
      rw [List.getElem?_set] at hj
      simp at hj
    · rw [List.getElem?_set_ne q] at hj ⊢
      exact e.ow j u hj
  inj := fun j k w1 w2 a h1 h2 h3 h4 => by
    by_cases q : i = j
    · subst q
      rw [List.getElem?_set] at h1
      simp at h1
    · by_cases q2 : i = k
      · subst q2
        rw [List.getElem?_set] at h2
        simp at h2
      · rw [List.getElem?_set_ne q] at h1 h3
        rw [List.getElem?_set_ne q2] at h2 h4
        exact e.inj j k w1 w2 a h1 h2 h3 h4
theorem EnvOk.wiped (e : EnvOk K fa c N Oi B O H σ r) : ∀ is : List Nat, EnvOk K fa c N Oi B O H (wipe σ is) (wipeE r is)
  | [] => e
  | i :: is => (e.wiped is).drop1
theorem wipe_set {σ : L2.St} {i : Nat} {v : Option V} : ∀ {is : List Nat}, i ∈ is → wipe (σ.set i v) is = wipe σ is
  | j :: is, h => by
    unfold wipe
    by_cases q : i ∈ is
    · rw [wipe_set q]
    · have e : i = j := by
        rcases List.mem_cons.mp h with h | h
        · exact h
        · exact absurd h q
      subst e
      have : ∀ {is : List Nat} {σ : L2.St}, i ∉ is → wipe (σ.set i v) is = (wipe σ is).set i v := by
        intro is
        induction is with
        | nil => intro σ _; rfl
        | cons k is ih =>
          intro σ hk
          unfold wipe
          rw [ih fun z => hk (List.mem_cons_of_mem _ z), List.set_comm]
          intro z
          exact hk (by rw [z]; exact List.mem_cons_self)
      rw [this q, List.set_set]
/-- a new object that is hidden -/
theorem EnvOk.hideNew {D : Addr} {o : HO} (e : EnvOk K fa c N Oi B O H σ r) (h : H D = none) : EnvOk K fa c N Oi B (D :: O) (upd H D o) σ r where
  sub := fun b hb => List.mem_cons_of_mem _ (e.sub b hb)
  sO := e.sO
  lO := e.lO
  cB := e.cB
  trk := fun b hb => by
    by_cases q : b = D
    · subst q; exact ⟨o, upd_same⟩
    · rw [upd_ne q]
      rcases List.mem_cons.mp hb with z | z
      · exact absurd z q
      · exact e.trk b z
  st := e.st.same (same_new h)
  fr := e.fr.trans (.of (same_new h))
  len := e.len
  sh := fun i w hw => by
    obtain ⟨v, h1, h2⟩ := e.sh i w hw
    exact ⟨v, h1, h2.mono (hide_new h)⟩
  ow := fun i w hw => by
    obtain ⟨a, h1, h2, h3, h4, h5⟩ := e.ow i w hw
    have n : a ≠ D := fun z => by
      obtain ⟨u, hu⟩ := e.trk a h2
      rw [z, h] at hu; cases hu
    exact ⟨a, h1, List.mem_cons_of_mem _ h2, h3, h4, h5.mono (hide_new h) (upd_ne n)⟩
  inj := e.inj
/-- a hidden object that no name owns is changed -/
theorem EnvOk.updHid {D : Addr} {o : HO} (e : EnvOk K fa c N Oi B O H σ r) (hD : D ∈ O) (hB : B D = none) (hc : H c.ca ≠ none → D ≠ c.ca) (hi : D ∉ Oi) (hn : ∀ (i : Nat) w, r[i]? = some (.ow w) → σ[i]? ≠ some (some (.ref D))) : EnvOk K fa c N Oi B O (upd H D o) σ r where
  sub := e.sub
  sO := e.sO
  lO := e.lO
  cB := e.cB
  trk := fun b hb => by
    by_cases q : b = D
    · subst q; exact ⟨o, upd_same⟩
    · rw [upd_ne q]; exact e.trk b hb
  st := by
    obtain ⟨⟨cs, ls, n, h1, h2, h3, h4⟩, h5⟩ := e.st
    have n1 : c.sa ≠ D := fun z => hi (z ▸ e.sO)
    have n2 : c.la ≠ D := fun z => hi (z ▸ e.lO)
    have n3 : c.ca ≠ D := fun z => hc (by rw [h2]; simp) z.symm
    exact ⟨⟨cs, ls, n, by rw [upd_ne n1]; exact h1, by rw [upd_ne n3]; exact h2, by rw [upd_ne n2]; exact h3, h4⟩, h5⟩
  fr := fun b u h1 h2 h3 => by
    have q : b ≠ D := fun z => by rw [z, hB] at h3; cases h3
    rw [upd_ne q]
    exact e.fr b u h1 h2 h3
  len := e.len
  sh := fun i w hw => by
    rw [hide_upd hD]
    exact e.sh i w hw
  ow := fun i w hw => by
    obtain ⟨a, h1, h2, h3, h4, h5⟩ := e.ow i w hw
    have n : a ≠ D := fun z => hn i w hw (z ▸ h1)
    exact ⟨a, h1, h2, h3, h4, h5.mono (by rw [hide_upd hD]; exact Same.refl _) (upd_ne n)⟩
  inj := e.inj
end

/-! ### targets -/
def rdG (T : Stc) (tg : Tg) : TG := fun v σ H Q => ∃ c N Oi B O r w r', EOk T c N Oi B O H σ r ∧ RW T.K T.fa c (hide O H) v w ∧ asgT tg w r = some r' ∧ ∀ σ', EOk T c N Oi B O H σ' r' → wipe σ' tg.is = wipe σ tg.is → Q σ' H
section
variable {T : Stc} {Ex : XK} {X : Cx} {kw : List (Nat × Nat × List Str × List Nat)} {Nm : List Str} {sc : Scope} {Fn : Str → Bool} {ct : Ct}
theorem PG.weak {tg : Expr} {t t' : TG} (h : PG X tg t) (i : ∀ v σ H Q, t' v σ H Q → t v σ H Q) : PG X tg t' := ⟨fun pins s σ H v u Q I r q => h.run pins s σ H v u Q I r (i v σ H Q q)⟩
theorem chkTg_star {tg : Tg} {pe : Expr} (h : chkTg ct sc Fn tg pe = true) : star pe = false := by
  cases pe <;> first | rfl | (cases tg <;> simp [chkTg] at h)
theorem as_star {e : Expr} {es : List Expr} {env : PySem.Env} (h : star e = false) : assignEach (e :: es) env = (false, assign e env) :: assignEach es env := by
  cases e <;> first | rfl | cases h
theorem wipe_app {σ : L2.St} : ∀ {is js : List Nat}, wipe σ (is ++ js) = wipe (wipe σ js) is
  | [], _ => rfl
  | i :: is, js => by
    show (wipe σ (is ++ js)).set i none = _
    rw [wipe_app]
    rfl
theorem wipe_comm {σ : L2.St} : ∀ {is js : List Nat}, wipe (wipe σ js) is = wipe (wipe σ is) js := by
  have one : ∀ {js : List Nat} {σ : L2.St} {i : Nat}, (wipe σ js).set i none = wipe (σ.set i none) js := by
    intro js
    induction js with
    | nil => intro σ i; rfl
    | cons j js ih =>
      intro σ i
      unfold wipe
      by_cases q : i = j
      · subst q; rw [ih]
      · rw [← ih, List.set_comm _ _ q]
  intro is
  induction is with
  | nil => intro js; rfl
  | cons i is ih =>
    intro js
    show (wipe (wipe σ js) is).set i none = wipe ((wipe σ is).set i none) js
    rw [ih, one]
def rdGs (T : Stc) (gs : TgL) : TGs := fun vs σ H Q => ∃ c N Oi B O r ds r', EOk T c N Oi B O H σ r ∧ RDs T.K (hide O H) vs ds ∧ asgTs gs ds r = some r' ∧ ∀ σ', EOk T c N Oi B O H σ' r' → wipe σ' gs.is = wipe σ gs.is → Q σ' H
theorem PGs.weak {ps : List Expr} {t t' : TGs} (h : PGs X ps t) (i : ∀ v σ H Q, t' v σ H Q → t v σ H Q) : PGs X ps t' := ⟨fun pins s σ H v u Q I r q => h.run pins s σ H v u Q I r (i v σ H Q q)⟩
theorem chkTgs_star : ∀ {gs : TgL} {ps : List Expr}, chkTgs ct sc Fn gs ps = true → ∀ p ∈ ps, star p = false
  | .nil, [], _, _, hp => by simp at hp
  | .nil, _ :: _, h, _, _ => by simp [chkTgs] at h
  | .cons _ _, [], h, _, _ => by simp [chkTgs] at h
  | .cons g gs, p :: ps, h, q, hq => by
    simp only [chkTgs, Bool.and_eq_true] at h
    rcases List.mem_cons.mp hq with rfl | hq
    · exact chkTg_star h.1
    · exact chkTgs_star h.2 q hq
theorem as_len {env : PySem.Env} : ∀ {ps : List Expr}, (∀ p ∈ ps, star p = false) → (assignEach ps env).length = ps.length ∧ (assignEach ps env).findIdx? (·.1) = none
  | [], _ => ⟨rfl, rfl⟩
  | p :: ps, h => by
    rw [as_star (h p List.mem_cons_self)]
    obtain ⟨h1, h2⟩ := as_len (env := env) (ps := ps) fun q hq => h q (List.mem_cons_of_mem _ hq)
    refine ⟨by rw [List.length_cons, List.length_cons, h1], ?_⟩
    rw [List.findIdx?_cons, h2]
    rfl
theorem chkTgs_len : ∀ {gs : TgL} {ps : List Expr} {ds : List PyData} {r r' : Env}, chkTgs ct sc Fn gs ps = true → asgTs gs ds r = some r' → ds.length = ps.length
  | .nil, [], [], _, _, _, _ => rfl
  | .nil, [], _ :: _, _, _, _, h => by simp [asgTs] at h
  | .nil, _ :: _, _, _, _, h, _ => by simp [chkTgs] at h
  | .cons _ _, [], _, _, _, h, _ => by simp [chkTgs] at h
  | .cons _ _, _ :: _, [], _, _, _, h => by simp [asgTs] at h
  | .cons g gs, p :: ps, d :: ds, r, r', h, h2 => by
    simp only [chkTgs, Bool.and_eq_true] at h
    unfold asgTs at h2
    simp only at h2
    split at h2
    · rw [List.length_cons, List.length_cons, chkTgs_len h.2 h2]
    · cases h2
mutual
theorem s_tg (xo : XOk T ct.N sc Fn Ex X) : ∀ (tg : Tg) (pe : Expr), chkTg ct sc Fn tg pe = true → PG X pe (rdG T tg)
  | .n i, pe, h => by
    unfold chkTg at h
    split at h
    · rename_i x p
      simp only [Bool.and_eq_true, decide_eq_true_eq] at h
      obtain ⟨h1, h2⟩ := h
      obtain ⟨h3, h4⟩ := locB_ok h2
      refine PG.weak (pg_name (by rw [xo.hN]; exact xo.nd) (by rw [xo.hN]; exact h1) (by rw [xo.hsc]; exact h3) (by rw [xo.hfn, xo.hsc]; exact h4)) fun v σ H Q ⟨c, N, Oi, B, O, r, w, r', env, rw', ha, k⟩ => ?_
      unfold asgT at ha
      obtain ⟨hi, rfl⟩ := if_some ha
      exact k _ (env.set hi rw') (wipe_set (by simp [Tg.is]))
    · cases h
  | .t ts, pe, h => by
    unfold chkTg at h
    split at h
    · rename_i ps kk p
      have hs := chkTgs_star h
      obtain ⟨l1, l2⟩ := as_len (env := X.env) hs
      refine PG.weak (pg_tup (n := ps.length) xo.calm (s_tgs xo ts ps h) l1 l2) fun v σ H Q ⟨c, N, Oi, B, O, r, w, r', env, rw', ha, k⟩ => ?_
      unfold asgT at ha
      split at ha
      · rename_i ds
        obtain ⟨l, xs, rfl, g1, g2⟩ := rw_tup rw'
        exact ⟨l, xs, rfl, by rw [xo.hK]; exact sqT_same hide_le g1, by rw [g2.len]; exact chkTgs_len h ha, c, N, Oi, B, O, r, ds, r', env, g2, ha, k⟩
      · cases ha
    · cases h
theorem s_tgs (xo : XOk T ct.N sc Fn Ex X) : ∀ (gs : TgL) (ps : List Expr), chkTgs ct sc Fn gs ps = true → PGs X ps (rdGs T gs)
  | .nil, ps, h => by
    cases ps with
    | cons _ _ => simp [chkTgs] at h
    | nil =>
      refine PGs.weak pgs_nil fun v σ H Q ⟨c, N, Oi, B, O, r, ds, r', env, rd, ha, k⟩ => ?_
      unfold asgTs at ha
      cases rd with
      | nil => cases ha; exact ⟨rfl, k σ env rfl⟩
      | cons _ _ => cases ha
  | .cons g gs, ps, h => by
    cases ps with
    | nil => simp [chkTgs] at h
    | cons p ps =>
      simp only [chkTgs, Bool.and_eq_true] at h
      refine PGs.weak (pgs_cons (s_tg xo g p h.1) (s_tgs xo gs ps h.2) (by rw [as_star (chkTg_star h.1)]; rfl)) fun v σ H Q ⟨c, N, Oi, B, O, r, ds, r', env, rd, ha, k⟩ => ?_
      unfold asgTs at ha
      cases rd with
      | nil => cases ha
      | cons r1 rt =>
        simp only at ha
        split at ha
        · rename_i r1' h1
          refine ⟨_, _, rfl, c, N, Oi, B, O, r, _, r1', env, .d r1, h1, fun σ1 env1 e1 => ⟨c, N, Oi, B, O, r1', _, r', env1, rt, ha, fun σ2 env2 e2 => k σ2 env2 ?_⟩⟩
          show wipe σ2 (g.is ++ gs.is) = wipe σ (g.is ++ gs.is)
          rw [wipe_app, e2, wipe_comm, e1, wipe_comm, ← wipe_app]
        · cases ha
end
end
end DS

set_option Elab.async false
set_option linter.all false
set_option autoImplicit false
set_option maxRecDepth 100000
set_option maxHeartbeats 4000000
/-! DS14: comprehensions; all expressions. -/
namespace DS
open PySem PySem.Spec PySem.SeqAt PyProof.Rows L2
section
variable {T : Stc} {Ex : XK} {X : Cx} {kw : List (Nat × Nat × List Str × List Nat)} {Nm : List Str} {sc : Scope} {Fn : Str → Bool} {ct : Ct} {elt : E} {cs : EL} {tg : Tg} {it : It} {c : StA} {O Oi : List Addr} {H H1 B : Hp} {N n : Nat} {σ : L2.St} {r : Env} {Q : VK}
/-- the block of a comprehension -/
theorem XOk.blk (xo : XOk T Nm sc Fn Ex X) (s : Shared) (H : Hp) (scope : Scope) (cl : List (Str × Addr)) (C : Addr) (fp : List Addr) : XOk T Nm (relS scope sc) (fun x => scope.names.lookup x == some .cell) E0 (X.blk s H scope (compEnvC scope cl C X.env) fp) where
  hP := xo.hP
  hw := xo.hw
  hK := xo.hK
  hmg := xo.hmg
  hbase := xo.hbase
  hN := xo.hN
  hsc := by rw [← xo.hsc]; rfl
  calm := xo.calm
  nd := xo.nd
  room := xo.room
  gd := xo.gd
  hfn := rfl
  pas := passL
/-- a comprehension's tests -/
def rdC (T : Stc) (cs : EL) : TT := fun σ H Q => ∃ c N Oi B O r, EOk T c N Oi B O H σ r ∧ (evC T.fs T.gs r cs).wp N (FinT c H Q) (fun _ _ => False)
theorem PTs.weak {ps : List Expr} {t t' : TT} (h : PTs X ps t) (i : ∀ σ H Q, t' σ H Q → t σ H Q) : PTs X ps t' := ⟨fun pins s σ H Q I q => h.run pins s σ H Q I (i σ H Q q)⟩
theorem c_nil : PTs X [] (rdC T .nil) := PTs.weak pts_nil fun σ H Q ⟨c, N, Oi, B, O, r, env, q⟩ => by
  unfold evC at q
  have q : FinT c H Q true N := q
  exact q H Fr.refl env.st
theorem c_one {e : E} {pe : Expr} {es : EL} (h : Snd T E0 X e pe) : PTs X [pe] (rdC T (.cons e es)) := PTs.weak (pts_one h.ts) fun σ H Q ⟨c, N, Oi, B, O, r, env, q⟩ => by
  unfold evC at q
  exact ⟨c, N, Oi, B, O, r, env, M.wp_mono (fun _ _ h => h) (fun _ _ z => z.elim) q⟩
/-- one turn -/
def turnC (T : Stc) (tg : Tg) (cs : EL) (elt : E) (r : Env) : W → M (Option PyData) := fun w => match asgT tg w (wipeE r tg.is) with
  | some r1 => (evC T.fs T.gs r1 cs).bind fun c => if c = true then (evE T.fs T.gs r1 false elt).bind fun y => (opt y.data?).bind fun x => .ret (some x) else .ret none
  | none => .stuck
theorem evE_comp {bw : Bool} : evE T.fs T.gs r bw (.comp tg it cs elt) = (itB r (evI T.fs T.gs r it) it).bind fun ws => if ws.length ≤ cap then (compM (turnC T tg cs elt r) ws []).nox.bind fun ds => .ret (.d (.list ds)) else .stuck := rfl
theorem compM_cons {step : W → M (Option PyData)} {w : W} {ws : List W} {acc : List PyData} : compM step (w :: ws) acc = (step w).bind fun o => match o with
    | some x => compM step ws (acc ++ [x])
    | none => compM step ws acc := rfl
/-- a reading of what is new -/
def FinF (T : Stc) (c : StA) (O : List Addr) (H : Hp) (Q : VK) : W → Nat → Prop := fun w n => ∀ v H', Fr c H H' → StOk c n H' → RFr T c O H H' v w → Q v H'
def rdF (T : Stc) (Ex : XK) (e : E) : TE := fun σ H Q => ∃ c N Oi B O r, EOk T c N Oi B O H σ r ∧ (evE T.fs T.gs r false e).wp N (FinF T c O H Q) (EX T Ex c O H)
theorem rdE_F {bw : Bool} {e : E} (hb : ∀ r, evE T.fs T.gs r bw e = evE T.fs T.gs r false e) (h : rdE T Ex bw e σ H Q) : rdF T Ex e σ H Q := by
  obtain ⟨c, N, Oi, B, O, r, env, q⟩ := h
  rw [hb] at q
  exact ⟨c, N, Oi, B, O, r, env, M.wp_mono (fun w n k v H' f s rf => k v H' f s (.inl rf.1)) (fun _ _ x => x) q⟩
theorem fr_none {H H1 : Hp} {c : StA} {a : Addr} {n : Nat} (f : Fr c H H1) (s : StOk c n H1) (h : H1 a = none) : H a = none := by
  cases z : H a with
  | none => rfl
  | some o =>
    by_cases h1 : a = c.sa
    · obtain ⟨u, hu⟩ := s.sa
      rw [← h1, h] at hu; cases hu
    · by_cases h2 : a = c.la
      · obtain ⟨u, hu⟩ := s.la
        rw [← h2, h] at hu; cases hu
      · have := f a o h1 h2 z
        rw [h] at this; cases this
theorem RFr.back {H H1 H' : Hp} {v : V} {w : W} (f : Fr c H H1) (s : StOk c n H1) (h : RFr T c O H1 H' v w) : RFr T c O H H' v w :=
  ⟨h.1, fun z => by
    obtain ⟨a, h1, h2, h3⟩ := h.2 z
    exact ⟨a, h1, fr_none f s h2, h3⟩⟩
theorem fin_ansF {w : W} (env : EOk T c n Oi B O H1 σ r) (f : Fr c H H1) (h : FinF T c O H Q w n) : AnsF T c O H1 w Q := fun v H' s rf => h v H' (f.trans (.of s)) (env.st.same s) (rf.back f env.st)
/-- what a comprehension walks, as the names keep what is theirs -/
structure JOc (T : Stc) (c : StA) (P : List Addr → Hp → Prop) (J : L2.It) (ws : List W) : Prop where
  go : ∀ (i : Nat) O' H, P O' H → i < ws.length → J.go i H
  yl : ∀ (i : Nat) O' H x H', i < ws.length → P O' H → J.yld i H x H' → ∃ w, ws[i]? = some w ∧ Same H H' ∧ RW T.K T.fa c (hide O' H') x w
  st : ∀ (i : Nat) O' H, P O' H → ws.length = i → J.stop i H
def FinIc (T : Stc) (c : StA) (Oi : List Addr) (B : Hp) (O : List Addr) (H : Hp) (σ : L2.St) (r : Env) (R : L2.It → Hp → Prop) : List W → Nat → Prop := fun ws n => ∀ J H1, Fr c H H1 → StOk c n H1 → JOc T c (fun O' Hc => Same (hide O H1) (hide O' Hc) ∧ ∃ m, EOk T c m Oi B O' Hc σ r) J ws → R J H1
def rdIc (T : Stc) (Ex : XK) (it : It) : TI := fun σ H R => ∃ c N Oi B O r, EOk T c N Oi B O H σ r ∧ (itB r (evI T.fs T.gs r it) it).wp N (FinIc T c Oi B O H σ r R) (EX T Ex c O H)
theorem JOk.toC {G : Hp} {J : L2.It} {ws : List W} {P : List Addr → Hp → Prop} (j : JOk T c G J ws) (h : ∀ O' H, P O' H → Same G (hide O' H) ∧ ∀ b ∈ O', ∃ o, H b = some o) : JOc T c P J ws :=
  ⟨fun i O' H p => j.go i O' H (h O' H p).1, fun i O' H x H' hi p => j.yl i O' H x H' hi (h O' H p).1 (h O' H p).2, fun i O' H p => j.st i O' H (h O' H p).1⟩
theorem ic_of {tg' pe : Expr} (hit : ∀ r k, itB r k it = k) (h : PI X tg' pe (rdI T Ex it)) : PI X tg' pe (rdIc T Ex it) := PI.weak h fun σ H R ⟨c, N, Oi, B, O, r, env, q⟩ => by
  rw [hit] at q
  exact ⟨c, N, Oi, B, O, r, env, M.wp_mono (fun ws n k J H1 f s j => k J H1 f s (j.toC fun O' H p => ⟨p.1, p.2.elim fun m e => e.trk⟩)) (fun _ _ x => x) q⟩
theorem ic_own {tg' pa : Expr} {i : Nat} (xo : XOk T Nm sc Fn Ex X) (hp : PE X pa (tVar i)) : PI X tg' pa (rdIc T Ex (.of (.v i))) := by
  refine ⟨fun pins s σ H R I ⟨c, N, Oi, B, O, r, env, q⟩ => ?_⟩
  have q : ((getN r true i).bind fun x => opt (itOf x)).wp N (FinIc T c Oi B O H σ r R) (EX T Ex c O H) := q
  have hv : ∃ v, σ[i]? = some (some v) ∧ ∃ l xs, v = .ref l ∧ ((SqL X.K H l xs ∧ R (Itl X.K l) H) ∨ (SqT X.K H l xs ∧ R (Itt X.K l) H)) := by
    rw [xo.hK]
    unfold getN at q
    cases hr : r[i]? with
    | none => rw [hr] at q; exact q.elim
    | some cl =>
      rw [hr] at q
      cases cl with
      | no => exact q.elim
      | sh w =>
        obtain ⟨v, e1, e2⟩ := env.sh i w hr
        obtain ⟨ws, hw, q2⟩ := opt_wp q
        unfold itOf at hw
        split at hw
        · cases hw
          obtain ⟨l, xs, e, h1, h2⟩ := rw_lst e2
          exact ⟨v, e1, l, xs, e, .inl ⟨.inl (.inl (hide_le _ _ h1)), q2 _ _ Fr.refl env.st ((j_list h1 h2).toC fun O' H p => ⟨p.1, p.2.elim fun m e => e.trk⟩)⟩⟩
        · cases hw
          obtain ⟨l, xs, e, h1, h2⟩ := rw_tup e2
          exact ⟨v, e1, l, xs, e, .inr ⟨sqT_same hide_le h1, q2 _ _ Fr.refl env.st ((j_tup h1 h2).toC fun O' H p => ⟨p.1, p.2.elim fun m e => e.trk⟩)⟩⟩
        · cases hw
      | ow w =>
        obtain ⟨a, e1, e2, e3, e4, e5⟩ := env.ow i w hr
        obtain ⟨ws, hw, q2⟩ := opt_wp q
        unfold itOf at hw
        split at hw
        · rename_i ds
          cases hw
          cases e5 with | lst h1 h2 =>
          rename_i xs
          have look : ∀ O' Hc, (Same (hide O H) (hide O' Hc) ∧ ∃ m, EOk T c m Oi B O' Hc σ r) → ∃ ys, Hc a = some (.lst ys) ∧ RDs T.K (hide O' Hc) ys ds := fun O' Hc ⟨_, m, e⟩ => by
            obtain ⟨b, g1, _, _, _, g5⟩ := e.ow i _ hr
            rw [e1] at g1
            cases g1
            cases g5 with | lst k1 k2 => exact ⟨_, k1, k2⟩
          refine ⟨.ref a, e1, a, xs, rfl, .inl ⟨.inl (.inl h1), q2 _ _ Fr.refl env.st ⟨fun i O' Hc p hi => ?_, fun i O' Hc x H' hi p ⟨e, h⟩ => ?_, fun i O' Hc p hi => ?_⟩⟩⟩
          · obtain ⟨ys, k1, k2⟩ := look O' Hc p
            obtain ⟨y, hy⟩ := get_lt (xs := ys) (i := i) (by rw [k2.len]; simpa using hi)
            exact ⟨ys, y, .inl (.inl k1), hy⟩
          · obtain ⟨ys, k1, k2⟩ := look O' Hc p
            subst e
            obtain ⟨w, g1, g2⟩ := rds_map (fa := T.fa) (c := c) k2 (h ys (.inl (.inl k1)))
            exact ⟨w, g1, Same.refl _, g2⟩
          · obtain ⟨ys, k1, k2⟩ := look O' Hc p
            exact ⟨ys, .inl (.inl k1), by rw [k2.len]; have := Nat.le_of_eq hi; simpa using this⟩
        · cases e5
        · cases hw
  refine thn (hp.run pins s σ H (fun x H1 => H1 = H ∧ ∃ l xs, x = .ref l ∧ ((SqL X.K H l xs ∧ R (Itl X.K l) H) ∨ (SqT X.K H l xs ∧ R (Itt X.K l) H))) I ?_) fun v s1 hq => ?_
  · obtain ⟨v, h1, h2⟩ := hv
    exact ⟨v, h1, rfl, h2⟩
  · obtain ⟨x, H1, I1, r1, rfl, l, xs, rfl, hq⟩ := hq
    cases r1
    have fp : ∀ b ∈ [s1.heap.objs.size], FpOk X pins H1 b := fun b hb => by
      have e : b = s1.heap.objs.size := by simpa using hb
      subst e
      exact I1.fpOk (Nat.le_refl _) (I1.hok.fresh (Nat.le_refl _))
    rcases hq with ⟨h1, h2⟩ | ⟨h1, h2⟩
    · obtain ⟨its, rv, p, hz⟩ := I1.list h1
      exact wpAny_pyIter_list p.isList ⟨s1.heap.objs.size, [s1.heap.objs.size], _, _, H1, rfl, I1.kept (t' := s1.toks) fun b o e => Heap.get?_push_of_some _ e, turn_list l _, ⟨_, Heap.get?_push_size _ rfl, rfl, rfl⟩, fp, h2⟩
    · obtain ⟨its, rv, p, hz⟩ := I1.tuple h1
      exact wpAny_pyIter_tuple (show s1.heap.IsTuple l its.toArray from p) ⟨s1.heap.objs.size, [s1.heap.objs.size], _, _, H1, rfl, I1.kept (t' := s1.toks) fun b o e => Heap.get?_push_of_some _ e, turn_tuple l _, ⟨_, Heap.get?_push_size _ rfl, rfl, rfl⟩, fp, h2⟩
theorem s_comp_key {wi : TI} {vs : List Nat} (hvs : vs = tg.is) (hwi : ∀ σ H R, rdIc T Ex it σ H R → wi σ H R) (h : rdF T Ex (.comp tg it cs elt) σ H Q) : tLc wi (rdG T tg) (rdC T cs) (rdE T E0 false elt) vs σ H Q := by
  subst hvs
  obtain ⟨c, N, Oi, B, O, r, env, q⟩ := h
  rw [evE_comp] at q
  refine hwi _ _ _ ⟨c, N, Oi, B, O, r, env, M.wp_mono (fun ws n q J H1 f1 s1 hj D hD => ?_) (fun _ _ x => x) (M.wp_bind.mp q)⟩
  have env1 := env.step f1 s1
  by_cases hcap : ws.length ≤ cap
  case neg => rw [if_neg hcap] at q; exact q.elim
  rw [if_pos hcap] at q
  have q := M.wp_nox (M.wp_bind.mp q)
  have hDO : D ∉ O := env1.fresh hD
  have hDs : D ≠ c.sa := fun z => hDO (z ▸ env.sO')
  have hDl : D ≠ c.la := fun z => hDO (z ▸ env.lO')
  have hDc : D ≠ c.ca := fun z => by
    obtain ⟨_, _, _, _, h2, _⟩ := s1.ex
    rw [z, h2] at hD; cases hD
  have hB : B D = none := by
    cases z : B D with
    | none => rfl
    | some u => have := env1.fr D u hDs hDl z; rw [hD] at this; cases this
  have hH : H D = none := by
    cases z : H D with
    | none => rfl
    | some u => have := f1 D u hDs hDl z; rw [hD] at this; cases this
  have hown : ∀ (i : Nat) w, r[i]? = some (.ow w) → σ[i]? ≠ some (some (.ref D)) := fun i w hw z => by
    obtain ⟨a, g1, g2, _⟩ := env1.ow i w hw
    rw [z] at g1
    cases g1
    exact hDO g2
  refine ⟨fun i m Hc => m = ws.length - i ∧ i ≤ ws.length ∧ ∃ nc acc ds, Hc D = some (.lst acc) ∧ RDs T.K (hide (D :: O) Hc) acc ds ∧ EOk T c nc Oi B (D :: O) Hc σ r ∧ ds.length ≤ i ∧ Fr c H1 Hc ∧ Same (hide O H1) (hide (D :: O) Hc) ∧
    (compM (turnC T tg cs elt r) (ws.drop i) ds).wp nc (fun ds n => FinF T c O H Q (.d (.list ds)) n) (fun _ _ => False), ⟨ws.length, ?_⟩, ?_⟩
  · refine ⟨rfl, Nat.zero_le _, n, [], [], upd_same, .nil, env1.hideNew hD, Nat.le_refl _, .of (same_new hD), hide_new hD, ?_⟩
    exact M.wp_mono (fun ds n h => h) (fun _ _ z => z.elim) q
  · rintro i m Hc ⟨rfl, hi, nc, acc, ds, hacc, rds, envc, hdl, fc, sc', qc⟩
    by_cases hlt : i < ws.length
    · refine .inr ⟨hj.go i (D :: O) Hc ⟨sc', _, envc⟩ hlt, fun H' => ∃ m', m' < ws.length - i ∧ m' = ws.length - (i + 1) ∧ i + 1 ≤ ws.length ∧ ∃ nc acc ds, H' D = some (.lst acc) ∧ RDs T.K (hide (D :: O) H') acc ds ∧ EOk T c nc Oi B (D :: O) H' σ r ∧ ds.length ≤ i + 1 ∧ Fr c H1 H' ∧ Same (hide O H1) (hide (D :: O) H') ∧
        (compM (turnC T tg cs elt r) (ws.drop (i + 1)) ds).wp nc (fun ds n => FinF T c O H Q (.d (.list ds)) n) (fun _ _ => False), fun H' ⟨m', h1, h2⟩ => ⟨m', h1, h2⟩, fun x H2 hy => ?_⟩
      obtain ⟨w, hw, s2, rw2⟩ := hj.yl i (D :: O) Hc x H2 hlt ⟨sc', _, envc⟩ hy
      have env2 := envc.step (.of s2) (envc.st.same s2)
      have hdrop : ws.drop i = w :: ws.drop (i + 1) := by
        rw [List.drop_eq_getElem_cons hlt]
        congr 1
        exact Option.some.inj ((List.getElem?_eq_getElem hlt).symm.trans hw)
      rw [hdrop, compM_cons] at qc
      have qc := M.wp_bind.mp qc
      unfold turnC at qc
      cases ha : asgT tg w (wipeE r tg.is) with
      | none => rw [ha] at qc; exact qc.elim
      | some r1 =>
        rw [ha] at qc
        have qc := M.wp_bind.mp qc
        have hs12 : Same (hide O H1) (hide (D :: O) H2) := sc'.trans (hide_same s2)
        refine ⟨c, nc, Oi, B, D :: O, wipeE r tg.is, w, r1, env2.wiped tg.is, rw2, ha, fun σ2 env3 e3 => ⟨?_, c, nc, Oi, B, D :: O, r1, env3, M.wp_mono (fun b n3 q3 H3 f3 s3 => ?_) (fun _ _ z => z) qc⟩⟩
        · rw [e3]
          have : ∀ {σ : L2.St} {is : List Nat}, wipe (wipe σ is) is = wipe σ is := by
            intro σ is
            induction is with
            | nil => rfl
            | cons i is ih =>
              have e1 : wipe (wipe σ (i :: is)) is = wipe σ (i :: is) := by
                show wipe ((wipe σ is).set i none) is = (wipe σ is).set i none
                have e2 : ∀ {τ : L2.St} {js : List Nat}, wipe (τ.set i none) js = (wipe τ js).set i none := by
                  intro τ js
                  exact (wipe_comm (σ := τ) (is := js) (js := [i]))
                rw [e2, ih]
              show (wipe (wipe σ (i :: is)) is).set i none = (wipe σ is).set i none
              rw [e1]
              show ((wipe σ is).set i none).set i none = _
              rw [List.set_set]
          exact this
        · have env4 := env3.step f3 s3
          have envb := env2.step f3 s3
          have s13 : Same (hide O H1) (hide (D :: O) H3) := hs12.trans (f3.hide env3.sO' env3.lO')
          have hD2 : H2 D = some (.lst acc) := s2 _ _ hacc
          have hD3 : H3 D = some (.lst acc) := f3 _ _ hDs hDl hD2
          have rds3 : RDs T.K (hide (D :: O) H3) acc ds := RDs.mono ((hide_same s2).trans (f3.hide env3.sO' env3.lO')) _ _ rds
          have fr3 : Fr c H1 H3 := (fc.trans (.of s2)).trans f3
          cases b with
          | false =>
            rw [if_neg Bool.false_ne_true] at q3
            exact iteF ⟨_, by omega, rfl, hlt, n3, acc, ds, hD3, rds3, envb, by omega, fr3, s13, q3⟩
          | true =>
            rw [if_pos rfl] at q3
            have q3 := M.wp_bind.mp q3
            refine iteT ⟨c, n3, Oi, B, D :: O, r1, env4, M.wp_mono (fun y n4 q4 v H4 f4 s4 rb => ?_) (fun _ _ z => z.elim) q3⟩
            have hD4 : H4 D = some (.lst acc) := f4 _ _ hDs hDl hD3
            have envd := envb.step f4 s4
            have s14 : Same (hide O H1) (hide (D :: O) H4) := s13.trans (f4.hide env4.sO' env4.lO')
            have rds4 : RDs T.K (hide (D :: O) H4) acc ds := RDs.mono (f4.hide env4.sO' env4.lO') _ _ rds3
            obtain ⟨dy, hdy, q4⟩ := opt_wp (M.wp_bind.mp q4)
            have hy : y = .d dy := by
              cases y with
              | d z => cases hdy; rfl
              | tok => cases hdy
              | fn _ => cases hdy
              | dK _ => cases hdy
              | dT _ => cases hdy
            subst hy
            have rdy : RD T.K (hide (D :: O) H4) v dy := rb.plain.data
            have hmem : D ∈ D :: O := List.mem_cons_self
            refine ⟨acc, hD4, ?_, _, by omega, rfl, hlt, n4, acc ++ [v], ds ++ [dy], upd_same, ?_, ?_, by rw [List.length_append]; simp; omega, fun b u h1 h2 h3 => by rw [upd_ne (ne_of_none h3 hD)]; exact (fr3.trans f4) b u h1 h2 h3, ?_, q4⟩
            · rw [rds4.len]
              have := cap_le
              omega
            · rw [hide_upd hmem]
              exact rds4.append (.cons rdy .nil)
            · exact envd.updHid hmem hB (fun _ => hDc) (fun z => hDO (env1.sub _ z)) hown
            · rw [hide_upd hmem]; exact s14
    · have e : i = ws.length := by omega
      subst e
      refine .inl ⟨hj.st _ (D :: O) Hc ⟨sc', _, envc⟩ rfl, ?_⟩
      rw [List.drop_length] at qc
      have qc : FinF T c O H Q (.d (.list ds)) nc := qc
      refine qc _ Hc (fun b u h1 h2 h3 => fc b u h1 h2 (f1 b u h1 h2 h3)) envc.st ⟨.d (.lst (by rw [hide_out hDO]; exact hacc) (RDs.mono (hide_sub fun b hb => List.mem_cons_of_mem _ hb) _ _ rds)), fun _ => ⟨D, rfl, hH, .lst hacc rds⟩⟩
end
end DS

set_option Elab.async false
set_option linter.all false
set_option autoImplicit false
set_option maxRecDepth 100000
set_option maxHeartbeats 8000000
/-! DS15: all expressions. -/
namespace DS
open PySem PySem.Spec PySem.SeqAt PyProof.Rows L2
section
variable {T : Stc} {Ex : XK} {X : Cx} {kw : List (Nat × Nat × List Str × List Nat)} {Nm : List Str} {sc : Scope} {Fn : Str → Bool} {ct : Ct} {elt : E} {cs : EL} {tg : Tg} {it : It}
theorem ownOf_map {ct : Ct} : ∀ is : List Nat, (ownOf ct is).map (·.2) = is
  | [] => rfl
  | i :: is => congrArg (i :: ·) (ownOf_map is)
def notSet : Expr → Bool
  | .Set _ _ _ => false
  | _ => true
theorem folded_ok {e : Expr} {env : PySem.Env} (h : notSet e = true) (x : Value) : foldedSetIterable e env x = pure x := by
  cases e <;> first | rfl | cases h
theorem chkI_set {it : It} {ptg pe : Expr} (h : chkI ct sc it ptg pe = true) : notSet pe = true := by
  cases pe <;> first | rfl | (cases it <;> simp [chkI] at h)
theorem f_comp {ptg pit pelt : Expr} {ifs : List Expr} {scope : Scope} {pos : Pos} (xo : XOk T ct.N sc Fn Ex X) (hi : PI X ptg pit (rdIc T Ex it)) (hset : notSet pit = true) (hb : blkC ct.N sc scope (ownOf ct tg.is) = true) (htg : chkTg ct (relS scope sc) (fun x => scope.names.lookup x == some .cell) tg ptg = true)
    (hcs : ∀ X', XOk T ct.N (relS scope sc) (fun x => scope.names.lookup x == some .cell) E0 X' → PTs X' ifs (rdC T cs)) (helt : ∀ X', XOk T ct.N (relS scope sc) (fun x => scope.names.lookup x == some .cell) E0 X' → Snd T E0 X' elt pelt) :
    PE X (.ListComp pelt [⟨ptg, pit, ifs, 0⟩] scope pos) (rdF T Ex (.comp tg it cs elt)) := by
  have ok : BlkOk X.N X.env.scope scope (ownOf ct tg.is) := by rw [xo.hN, xo.hsc]; exact blkOk_by hb
  exact PE.weak (pe_lc (pos := pos) xo.calm (by rw [xo.hN]; exact xo.nd) hi ok (fun s H C cl fp => s_tg (xo.blk s H scope cl C fp) tg ptg htg) (fun s H C cl fp => hcs _ (xo.blk s H scope cl C fp)) (fun s H C cl fp => (helt _ (xo.blk s H scope cl C fp)).pf) (folded_ok hset)) fun σ H Q h => s_comp_key (ownOf_map _) (fun _ _ _ h => h) h
/-- name = [..] -/
theorem st_setLc {i : Nat} {y : Str} {py spos : Pos} {ptg pit pelt : Expr} {ifs : List Expr} {scope : Scope} {pos : Pos} (xo : XOk T ct.N sc Fn Ex X) (hy : ct.N[i]? = some y) (hyl : sc.names.lookup y = some .local) (hk : sc.kind = .function) (hl : (py.line == pos.line) = true)
    (hno : (scope.names.any fun (n, k) => n == y && (k == .local || k == .cell)) = false) (hi : PI X ptg pit (rdIc T Ex it)) (hset : notSet pit = true) (hb : blkC ct.N sc scope (ownOf ct tg.is) = true) (htg : chkTg ct (relS scope sc) (fun x => scope.names.lookup x == some .cell) tg ptg = true)
    (hcs : ∀ X', XOk T ct.N (relS scope sc) (fun x => scope.names.lookup x == some .cell) E0 X' → PTs X' ifs (rdC T cs)) (helt : ∀ X', XOk T ct.N (relS scope sc) (fun x => scope.names.lookup x == some .cell) E0 X' → Snd T E0 X' elt pelt) :
    PS X (.Assign [.Name y py] (.ListComp pelt [⟨ptg, pit, ifs, 0⟩] scope pos) spos) (tAsg (rdF T Ex (.comp tg it cs elt)) (gName i)) := by
  have ok : BlkOk X.N X.env.scope scope (ownOf ct tg.is) := by rw [xo.hN, xo.hsc]; exact blkOk_by hb
  have h := ps_setLc (pos := pos) (spos := spos) (py := py) xo.calm (by rw [xo.hN]; exact xo.nd) (by rw [xo.hN]; exact hy) (by rw [xo.hsc]; exact hyl) (sw_true (by rw [xo.hsc]; exact hk) (by rw [xo.hsc]; exact hyl) hl hno) hi ok (fun s H C cl fp => s_tg (xo.blk s H scope cl C fp) tg ptg htg) (fun s H C cl fp => hcs _ (xo.blk s H scope cl C fp)) (fun s H C cl fp => (helt _ (xo.blk s H scope cl C fp)).pf) (folded_ok hset)
  exact ⟨fun pins s σ H D I q => h.run pins s σ H D I (s_comp_key (ownOf_map _) (fun _ _ _ h => h) q)⟩
theorem s_comp {ptg pit pelt : Expr} {ifs : List Expr} {scope : Scope} {pos : Pos} (xo : XOk T ct.N sc Fn Ex X) (hi : PI X ptg pit (rdIc T Ex it)) (hset : notSet pit = true) (hb : blkC ct.N sc scope (ownOf ct tg.is) = true) (htg : chkTg ct (relS scope sc) (fun x => scope.names.lookup x == some .cell) tg ptg = true)
    (hcs : ∀ X', XOk T ct.N (relS scope sc) (fun x => scope.names.lookup x == some .cell) E0 X' → PTs X' ifs (rdC T cs)) (helt : ∀ X', XOk T ct.N (relS scope sc) (fun x => scope.names.lookup x == some .cell) E0 X' → Snd T E0 X' elt pelt) :
    Snd T Ex X (.comp tg it cs elt) (.ListComp pelt [⟨ptg, pit, ifs, 0⟩] scope pos) := by
  exact .plain (fun _ => rfl) (PE.weak (f_comp xo hi hset hb htg hcs helt) fun σ H Q h => rdE_F (fun _ => rfl) h) (by intro _; rfl)
theorem nameB_ok (xo : XOk T ct.N sc Fn Ex X) {i : Nat} {x : Str} (h : nameB ct sc i x = true) : X.N[i]? = some x ∧ Vis X.env.scope x ∧ (x == ("__debug__" : Str)) = false ∧ (x == ("__classdict__" : Str)) = false := by
  unfold nameB at h
  simp only [Bool.and_eq_true, decide_eq_true_eq, Bool.not_eq_true'] at h
  obtain ⟨⟨⟨h1, h2⟩, h3⟩, h4⟩ := h
  exact ⟨by rw [xo.hN]; exact h1, by rw [xo.hsc]; exact visB_ok h2, h3, h4⟩
theorem s_gl {j : Nat} {x : Str} {p : Pos} (tk : TOk T kw) (xo : XOk T Nm sc Fn Ex X) (hj : T.gn[j]? = some x) (hg : glB sc x = true) : Snd T Ex X (.gl j) (.Name x p) := by
  obtain ⟨w, u, v, h1, h2, h3, h4⟩ := tk.gls j x hj
  refine s_const (v := v) (w := w) (fun c G => h4 c G) (fun r bw => ?_) (pe_glob (gl_of xo hg) (by rw [xo.hmg]; exact h2) h3 (glB_ok hg).2) (by intro _; rfl)
  unfold evE
  rw [h1]
theorem s_fn {f : Nat} {x : Str} {p : Pos} (tk : TOk T kw) (xo : XOk T Nm sc Fn Ex X) (hj : T.fn[f]? = some x) (hg : glB sc x = true) : Snd T Ex X (.fn f) (.Name x p) := by
  obtain ⟨F, n, fd, ps, h1, h2, _⟩ := tk.fns f x hj
  exact s_const (v := .ref (T.fa f)) (w := .fn f) (fun c G => .fn f) (fun r bw => rfl) (pe_glob (gl_of xo hg) (by rw [xo.hmg]; exact h2) rfl (glB_ok hg).2) (by intro _; rfl)
theorem mark_of {op : Cop} {e : E} {pe : Expr} (h : chkE ct sc e pe = true) : behindInMarks (cmpOpOf op) pe = false := by
  cases pe <;> first | rfl | (cases e <;> simp [chkE] at h)
theorem sIc {it : It} {ptg pe : Expr} (xo : XOk T ct.N sc Fn Ex X) (h : chkI ct sc it ptg pe = true) (hI : PI X ptg pe (rdI T Ex it)) : PI X ptg pe (rdIc T Ex it) := by
  cases it with
  | of a =>
    cases a with
    | v i =>
      unfold chkI at h
      simp only [Bool.and_eq_true] at h
      have h := h.1.1
      unfold chkE at h
      split at h
      · obtain ⟨h1, h2, h3, h4⟩ := nameB_ok xo h
        exact ic_own xo (pe_var h1 h2 h3 h4)
      · cases h
    | _ => exact ic_of (fun _ _ => rfl) hI
  | _ => exact ic_of (fun _ _ => rfl) hI
mutual
theorem sE (tk : TOk T ct.kw) (hf : ct.fn = T.fn) (hgn : ct.gn = T.gn) : ∀ (e : E) (sc : Scope) (Fn : Str → Bool) (Ex : XK) (X : Cx) (pe : Expr), XOk T ct.N sc Fn Ex X → chkE ct sc e pe = true → Snd T Ex X e pe
  | .v i, sc, Fn, Ex, X, pe, xo, h => by
    unfold chkE at h
    split at h
    · obtain ⟨h1, h2, h3, h4⟩ := nameB_ok xo h
      exact s_v h1 h2 h3 h4
    · cases h
  | .non, sc, Fn, Ex, X, pe, xo, h => by
    unfold chkE at h
    split at h
    · exact s_const (v := .non) (fun _ _ => .d .non) (fun _ _ => rfl) pe_non (by intro _; rfl)
    · cases h
  | .bl b, sc, Fn, Ex, X, pe, xo, h => by
    unfold chkE at h
    split at h
    · have := beq_iff_eq.mp h
      subst this
      exact s_const (v := .bl b) (fun _ _ => .d (.bl _)) (fun _ _ => rfl) pe_bl (by intro _; rfl)
    · cases h
  | .int i, sc, Fn, Ex, X, pe, xo, h => by
    unfold chkE at h
    split at h
    · have := of_decide_eq_true h
      subst this
      exact s_const (v := .int i) (fun _ _ => .d (.int _)) (fun _ _ => rfl) pe_int (by intro _; rfl)
    · cases h
  | .str s, sc, Fn, Ex, X, pe, xo, h => by
    unfold chkE at h
    split at h
    · have := of_decide_eq_true h
      subst this
      exact s_const (v := .str s) (fun _ _ => .d (.str _)) (fun _ _ => rfl) pe_str (by intro _; rfl)
    · cases h
  | .gl j, sc, Fn, Ex, X, pe, xo, h => by
    unfold chkE at h
    split at h
    · simp only [Bool.and_eq_true, decide_eq_true_eq] at h
      exact s_gl tk xo (by rw [← hgn]; exact h.1) h.2
    · cases h
  | .fn f, sc, Fn, Ex, X, pe, xo, h => by
    unfold chkE at h
    split at h
    · simp only [Bool.and_eq_true, decide_eq_true_eq] at h
      exact s_fn tk xo (by rw [← hf]; exact h.1) h.2
    · cases h
  | .tup es, sc, Fn, Ex, X, pe, xo, h => by
    unfold chkE at h
    split at h
    · simp only [Bool.and_eq_true, decide_eq_true_eq] at h
      exact s_tup (sL tk hf hgn es sc Fn Ex X _ xo h.1).toPA h.2 fun _ _ _ _ q => evL_len q
    · cases h
  | .lst es, sc, Fn, Ex, X, pe, xo, h => by
    unfold chkE at h
    split at h
    · simp only [Bool.and_eq_true, decide_eq_true_eq] at h
      exact s_lst (sL tk hf hgn es sc Fn Ex X _ xo h.1).toPA h.2 fun _ _ _ _ q => evL_len q
    · cases h
  | .dnew, sc, Fn, Ex, X, pe, xo, h => by
    unfold chkE at h
    split at h
    · exact s_dnew
    · cases h
  | .bin op a b, sc, Fn, Ex, X, pe, xo, h => by
    unfold chkE at h
    split at h
    · simp only [Bool.and_eq_true, decide_eq_true_eq] at h
      obtain ⟨⟨h1, h2⟩, h3⟩ := h
      rw [← h1]
      exact s_bin xo.hK (sE tk hf hgn a sc Fn Ex X _ xo h2) (sE tk hf hgn b sc Fn Ex X _ xo h3)
    · cases h
  | .neg a, sc, Fn, Ex, X, pe, xo, h => by
    unfold chkE at h
    split at h
    · exact s_neg (sE tk hf hgn a sc Fn Ex X _ xo h)
    · cases h
  | .cmp op a b, sc, Fn, Ex, X, pe, xo, h => by
    unfold chkE at h
    split at h
    · simp only [Bool.and_eq_true, decide_eq_true_eq] at h
      obtain ⟨⟨h1, h2⟩, h3⟩ := h
      rw [← h1]
      exact s_cmp xo.hK xo.hu (sE tk hf hgn a sc Fn Ex X _ xo h2) (sE tk hf hgn b sc Fn Ex X _ xo h3) (mark_of h3)
    · cases h
  | .chain p q a b d, sc, Fn, Ex, X, pe, xo, h => by
    unfold chkE at h
    split at h
    · simp only [Bool.and_eq_true, decide_eq_true_eq] at h
      obtain ⟨⟨⟨⟨h1, h2⟩, h3⟩, h4⟩, h5⟩ := h
      rw [← h1, ← h2]
      have ha := sE tk hf hgn a sc Fn Ex X _ xo h3
      have hb := sE tk hf hgn b sc Fn Ex X _ xo h4
      have hd := sE tk hf hgn d sc Fn Ex X _ xo h5
      exact s_chain xo.hK xo.hu ha hb hd (mark_of h4) (mark_of h5) (pe_chain (op_cmp (T := T) p xo.hK xo.hu) (op_cmp (T := T) q xo.hK xo.hu) ha.pf hb.pf hd.pf (by have := mark_of (op := q) h5; exact this)) (pt_chain (op_cmp (T := T) p xo.hK xo.hu) (op_cmp (T := T) q xo.hK xo.hu) ha.pf hb.pf hd.pf (by have := mark_of (op := q) h5; exact this))
    · cases h
  | .isN a, sc, Fn, Ex, X, pe, xo, h => by
    unfold chkE at h
    split at h
    · exact s_isN (sE tk hf hgn a sc Fn Ex X _ xo h)
    · cases h
  | .notN a, sc, Fn, Ex, X, pe, xo, h => by
    unfold chkE at h
    split at h
    · exact s_notN (sE tk hf hgn a sc Fn Ex X _ xo h)
    · cases h
  | .bop conj es, sc, Fn, Ex, X, pe, xo, h => by
    unfold chkE at h
    split at h
    · simp only [Bool.and_eq_true, decide_eq_true_eq] at h
      obtain ⟨⟨h1, h2⟩, h3⟩ := h
      have hl := sL tk hf hgn es sc Fn Ex X _ xo h2
      have ho : bopO conj = _ := h1.symm
      rw [← ho]
      refine s_bop hl fun z => ?_
      subst z
      cases hl
      simp at h3
    · cases h
  | .not a, sc, Fn, Ex, X, pe, xo, h => by
    unfold chkE at h
    split at h
    · exact s_not (sE tk hf hgn a sc Fn Ex X _ xo h)
    · cases h
  | .ite c a b, sc, Fn, Ex, X, pe, xo, h => by
    unfold chkE at h
    split at h
    · simp only [Bool.and_eq_true] at h
      exact s_ite (sE tk hf hgn c sc Fn Ex X _ xo h.1.1) (sE tk hf hgn a sc Fn Ex X _ xo h.1.2) (sE tk hf hgn b sc Fn Ex X _ xo h.2)
    · cases h
  | .ix a i, sc, Fn, Ex, X, pe, xo, h => by
    unfold chkE at h
    split at h
    · simp only [Bool.and_eq_true, Bool.not_eq_true'] at h
      exact s_ix xo.hK xo.hu (sE tk hf hgn a sc Fn Ex X _ xo h.1.1) (sE tk hf hgn i sc Fn Ex X _ xo h.1.2) h.2
    · cases h
  | .sl a lo hi, sc, Fn, Ex, X, pe, xo, h => by
    unfold chkE at h
    split at h
    · simp only [Bool.and_eq_true] at h
      obtain ⟨⟨h1, h2⟩, h3⟩ := h
      refine s_sl xo.hK (sE tk hf hgn a sc Fn Ex X _ xo h1) ?_ ?_
      · split at h2
        · cases sL tk hf hgn lo sc Fn Ex X _ xo h2
          exact o_none
        · cases sL tk hf hgn lo sc Fn Ex X _ xo h2 with
          | cons g _ t => exact o_some g
      · split at h3
        · cases sL tk hf hgn hi sc Fn Ex X _ xo h3
          exact o_none
        · cases sL tk hf hgn hi sc Fn Ex X _ xo h3 with
          | cons g _ t => exact o_some g
    · cases h
  | .call f es, sc, Fn, Ex, X, pe, xo, h => by
    unfold chkE at h
    split at h
    · simp only [Bool.and_eq_true, decide_eq_true_eq] at h
      exact s_call tk xo (by rw [← hf]; exact h.1.1) h.1.2 (sL tk hf hgn es sc Fn Ex X _ xo h.2)
    · cases h
  | .callk f np ks perm es, sc, Fn, Ex, X, pe, xo, h => by
    unfold chkE at h
    split at h
    · simp only [Bool.and_eq_true, decide_eq_true_eq] at h
      obtain ⟨⟨⟨⟨⟨⟨⟨h1, h2⟩, h3⟩, h4⟩, h5⟩, h6⟩, h7⟩, h8⟩ := h
      exact s_callk tk xo (by rw [← hf]; exact h1) h2 h3 h4 h5 h6 (sL tk hf hgn es sc Fn Ex X _ xo h7)
    · cases h
  | .callv i es, sc, Fn, Ex, X, pe, xo, h => by
    unfold chkE at h
    split at h
    · simp only [Bool.and_eq_true, Bool.not_eq_true'] at h
      obtain ⟨⟨h0, h2⟩, h3⟩ := h
      obtain ⟨g1, g2, g3, g4⟩ := nameB_ok xo h0
      exact s_callv tk xo g1 g2 g3 g4 (sL tk hf hgn es sc Fn Ex X _ xo h2) (fun z => by rw [z] at h3; cases h3)
    · cases h
  | .b1 b a, sc, Fn, Ex, X, pe, xo, h => by
    unfold chkE at h
    split at h
    · simp only [Bool.and_eq_true, decide_eq_true_eq] at h
      obtain ⟨⟨h1, h2⟩, h3⟩ := h
      subst h1
      split at h3
      · rename_i n hin
        split at h3
        · simp only [Bool.and_eq_true, decide_eq_true_eq] at h3
          obtain ⟨⟨g1, g2⟩, g3⟩ := h3
          subst g1
          by_cases hb : b = .listRange
          · subst hb
            cases hin
            exact s_lr tk xo (sE tk hf hgn a sc Fn Ex X _ xo g3) (chk_star g3) h2 g2
          · exact s_ss tk xo (sE tk hf hgn a sc Fn Ex X _ xo g3) (chk_star g3) h2 hin g2 hb
        · cases h3
      · rename_i hin
        exact s_b1 tk xo (sE tk hf hgn a sc Fn Ex X _ xo h3) (chk_star h3) h2 hin
    · cases h
  | .isi a t, sc, Fn, Ex, X, pe, xo, h => by
    unfold chkE at h
    split at h
    · simp only [Bool.and_eq_true, decide_eq_true_eq] at h
      obtain ⟨⟨⟨h1, h2⟩, h3⟩, h4⟩ := h
      subst h1
      exact s_isi tk xo (sE tk hf hgn a sc Fn Ex X _ xo h3) (chk_star h3) h2 h4
    · cases h
  | .comp tg it cs elt, sc, Fn, Ex, X, pe, xo, h => by
    unfold chkE at h
    split at h
    · simp only [Bool.and_eq_true, decide_eq_true_eq] at h
      obtain ⟨⟨⟨⟨⟨⟨h1, h2⟩, h3⟩, h4⟩, h5⟩, h6⟩, h7⟩ := h
      subst h1
      refine s_comp xo (sIc xo h2 (sI tk hf hgn it sc Fn Ex X _ _ xo h2)) (chkI_set h2) h7 h3 (fun X' xo' => ?_) fun X' xo' => sE tk hf hgn elt _ _ _ X' _ xo' h6
      have hl := sL tk hf hgn cs _ _ _ X' _ xo' h4
      cases hl with
      | nil => exact c_nil
      | cons g _ t => cases t with
        | nil => exact c_one g
        | cons _ _ _ => simp [EL.len] at h5
    · cases h
theorem sL (tk : TOk T ct.kw) (hf : ct.fn = T.fn) (hgn : ct.gn = T.gn) : ∀ (es : EL) (sc : Scope) (Fn : Str → Bool) (Ex : XK) (X : Cx) (ps : List Expr), XOk T ct.N sc Fn Ex X → chkL ct sc es ps = true → SndL T Ex X es ps
  | .nil, sc, Fn, Ex, X, ps, xo, h => by
    unfold chkL at h
    split at h
    · exact .nil
    · cases h
  | .cons e es, sc, Fn, Ex, X, ps, xo, h => by
    unfold chkL at h
    split at h
    · simp only [Bool.and_eq_true] at h
      exact .cons (sE tk hf hgn e sc Fn Ex X _ xo h.1) (chk_star h.1) (sL tk hf hgn es sc Fn Ex X _ xo h.2)
    · cases h
theorem sI (tk : TOk T ct.kw) (hf : ct.fn = T.fn) (hgn : ct.gn = T.gn) : ∀ (it : It) (sc : Scope) (Fn : Str → Bool) (Ex : XK) (X : Cx) (ptg pe : Expr), XOk T ct.N sc Fn Ex X → chkI ct sc it ptg pe = true → PI X ptg pe (rdI T Ex it)
  | .of a, sc, Fn, Ex, X, ptg, pe, xo, h => by
    unfold chkI at h
    simp only [Bool.and_eq_true] at h
    exact i_of xo (sE tk hf hgn a sc Fn Ex X _ xo h.1.1)
  | .rng1 a, sc, Fn, Ex, X, ptg, pe, xo, h => by
    unfold chkI at h
    split at h
    · simp only [Bool.and_eq_true, decide_eq_true_eq] at h
      obtain ⟨⟨h1, h2⟩, h3⟩ := h
      subst h1
      exact i_rng1 tk xo (sE tk hf hgn a sc Fn Ex X _ xo h3) (chk_star h3) h2
    · cases h
  | .rng2 a b, sc, Fn, Ex, X, ptg, pe, xo, h => by
    unfold chkI at h
    split at h
    · simp only [Bool.and_eq_true, decide_eq_true_eq] at h
      obtain ⟨⟨⟨h1, h2⟩, h3⟩, h4⟩ := h
      subst h1
      exact i_rng2 tk xo (sE tk hf hgn a sc Fn Ex X _ xo h3) (chk_star h3) (sE tk hf hgn b sc Fn Ex X _ xo h4) (chk_star h4) h2
    · cases h
  | .enum a, sc, Fn, Ex, X, ptg, pe, xo, h => by
    unfold chkI at h
    split at h
    · simp only [Bool.and_eq_true, decide_eq_true_eq] at h
      obtain ⟨⟨⟨h1, h2⟩, h3⟩, h4⟩ := h
      subst h1
      unfold isTup at h4
      split at h4
      · exact i_enum tk xo (sE tk hf hgn a sc Fn Ex X _ xo h3) (chk_star h3) h2
      · cases h4
    · cases h
  | .zip a b, sc, Fn, Ex, X, ptg, pe, xo, h => by
    unfold chkI at h
    split at h
    · simp only [Bool.and_eq_true, decide_eq_true_eq] at h
      obtain ⟨⟨⟨⟨h1, h2⟩, h3⟩, h4⟩, h5⟩ := h
      subst h1
      unfold isTup at h5
      split at h5
      · exact i_zip tk xo (sE tk hf hgn a sc Fn Ex X _ xo h3) (chk_star h3) (sE tk hf hgn b sc Fn Ex X _ xo h4) (chk_star h4) h2
      · cases h5
    · cases h
  | .rev a, sc, Fn, Ex, X, ptg, pe, xo, h => by
    unfold chkI at h
    split at h
    · simp only [Bool.and_eq_true, decide_eq_true_eq] at h
      obtain ⟨⟨h1, h2⟩, h3⟩ := h
      subst h1
      exact i_rev tk xo (sE tk hf hgn a sc Fn Ex X _ xo h3) (chk_star h3) h2
    · cases h
end
theorem compC (tk : TOk T ct.kw) (hf : ct.fn = T.fn) (hgn : ct.gn = T.gn) {sc' : Scope} {Fn' : Str → Bool} {ifs : List Expr} (h4 : chkL ct sc' cs ifs = true) (h5 : cs.len ≤ 1) (X' : Cx) (xo' : XOk T ct.N sc' Fn' E0 X') : PTs X' ifs (rdC T cs) := by
  have hl := sL tk hf hgn cs _ _ _ X' _ xo' h4
  cases hl with
  | nil => exact c_nil
  | cons g _ t => cases t with
    | nil => exact c_one g
    | cons _ _ _ => simp [EL.len] at h5
theorem compF (tk : TOk T ct.kw) (hf : ct.fn = T.fn) (hgn : ct.gn = T.gn) {ptg pit pelt : Expr} {ifs : List Expr} {scope : Scope} {pos : Pos} (xo : XOk T ct.N sc Fn Ex X) (h2 : chkI ct sc it ptg pit = true) (h3 : chkTg ct (relS scope sc) (fun x => scope.names.lookup x == some .cell) tg ptg = true)
    (h4 : chkL ct (relS scope sc) cs ifs = true) (h5 : cs.len ≤ 1) (h6 : chkE ct (relS scope sc) elt pelt = true) (h7 : blkC ct.N sc scope (ownOf ct tg.is) = true) : PE X (.ListComp pelt [⟨ptg, pit, ifs, 0⟩] scope pos) (rdF T Ex (.comp tg it cs elt)) :=
  f_comp xo (sIc xo h2 (sI tk hf hgn it sc Fn Ex X _ _ xo h2)) (chkI_set h2) h7 h3 (fun X' xo' => compC tk hf hgn h4 h5 X' xo') fun X' xo' => sE tk hf hgn elt _ _ _ X' _ xo' h6
end
end DS

set_option Elab.async false
set_option linter.all false
set_option autoImplicit false
set_option maxRecDepth 100000
set_option maxHeartbeats 4000000
/-! DS16: names that own lists; what is new. -/
namespace DS
open PySem PySem.Spec PySem.SeqAt PyProof.Rows L2
section
variable {K : Frag} {fa : Nat → Addr} {c : StA} {N N' : Nat} {Oi O : List Addr} {B H H' : Hp} {σ : L2.St} {r : Env}
theorem get_lt' {α : Type} {l : List α} {i : Nat} {x : α} (h : l[i]? = some x) : i < l.length := by
  by_cases q : i < l.length
  · exact q
  · rw [List.getElem?_eq_none (by omega)] at h; cases h
/-- a name's own list is shown -/
theorem EnvOk.dem1 (i : Nat) (e : EnvOk K fa c N Oi B O H σ r) : ∃ O', EnvOk K fa c N Oi B O' H σ (DS.dem1 r i) ∧ ∀ b ∈ O', b ∈ O := by
  unfold DS.dem1
  split
  · rename_i w hi
    obtain ⟨a, h1, h2, h3, h4, h5⟩ := e.ow i w hi
    have lt := get_lt' hi
    have sub : ∀ b ∈ O.filter (fun b => decide (b ≠ a)), b ∈ O := fun b hb => (List.mem_filter.mp hb).1
    have keep : ∀ b ∈ O, b ≠ a → b ∈ O.filter (fun b => decide (b ≠ a)) := fun b hb n => List.mem_filter.mpr ⟨hb, by simpa using n⟩
    have out : a ∉ O.filter (fun b => decide (b ≠ a)) := fun z => by simpa using (List.mem_filter.mp z).2
    refine ⟨O.filter (fun b => decide (b ≠ a)), ?_, sub⟩
    exact {
      sub := fun b hb => keep b (e.sub b hb) fun z => h4 (z ▸ hb)
      sO := e.sO
      lO := e.lO
      cB := e.cB
      trk := fun b hb => e.trk b (sub b hb)
      st := e.st
      fr := e.fr
      len := by simp [e.len]
      sh := fun j u hj => by
        by_cases q : i = j
        · subst q
          rw [List.getElem?_set_self lt] at hj
          cases hj
          exact ⟨_, h1, h5.show (hide_sub sub) (hide_out out)⟩
        · rw [List.getElem?_set_ne q] at hj
          obtain ⟨v, g1, g2⟩ := e.sh j u hj
          exact ⟨v, g1, g2.mono (hide_sub sub)⟩
      ow := fun j u hj => by
        by_cases q : i = j
        · subst q
          rw [List.getElem?_set_self lt] at hj
          cases hj
        · rw [List.getElem?_set_ne q] at hj
          obtain ⟨b, g1, g2, g3, g4, g5⟩ := e.ow j u hj
          have n : b ≠ a := fun z => by subst z; exact q (e.inj i j w u b hi hj h1 g1)
          exact ⟨b, g1, keep b g2 n, g3, g4, g5.mono (hide_sub sub) rfl⟩
      inj := fun j k w1 w2 b g1 g2 g3 g4 => by
        by_cases q : i = j
        · subst q
          rw [List.getElem?_set_self lt] at g1
          cases g1
        · by_cases q2 : i = k
          · subst q2
            rw [List.getElem?_set_self lt] at g2
            cases g2
          · rw [List.getElem?_set_ne q] at g1
            rw [List.getElem?_set_ne q2] at g2
            exact e.inj j k w1 w2 b g1 g2 g3 g4 }
  · exact ⟨O, e, fun _ h => h⟩
theorem EnvOk.dem (e : EnvOk K fa c N Oi B O H σ r) (is : List Nat) : ∃ O', EnvOk K fa c N Oi B O' H σ (DS.dem r is) ∧ ∀ b ∈ O', b ∈ O := by
  induction is generalizing r O with
  | nil => exact ⟨O, e, fun _ h => h⟩
  | cons i is ih =>
    obtain ⟨O1, e1, s1⟩ := e.dem1 i
    obtain ⟨O2, e2, s2⟩ := ih e1
    exact ⟨O2, e2, fun b hb => s1 b (s2 b hb)⟩
/-- what is new is hidden -/
theorem same_hideOld {a : Addr} (f : Fr c H H') (h1 : c.sa ∈ O) (h2 : c.la ∈ O) (ha : H a = none) : Same (hide O H) (hide (a :: O) H') := fun b o e => by
  obtain ⟨hb, e⟩ := hide_some e
  have n : b ≠ a := fun z => by rw [z, ha] at e; cases e
  rw [hide_out (by simp [n, hb])]
  exact f b o (fun q => hb (q ▸ h1)) (fun q => hb (q ▸ h2)) e
theorem EnvOk.hideOld {a : Addr} {o : HO} (e : EnvOk K fa c N Oi B O H σ r) (f : Fr c H H') (s : StOk c N' H') (ha : H a = none) (ho : H' a = some o) : EnvOk K fa c N' Oi B (a :: O) H' σ r :=
  let e1 := e.step f s
  have sm : Same (hide O H) (hide (a :: O) H') := same_hideOld f e.sO' e.lO' ha
  { sub := fun b hb => List.mem_cons_of_mem _ (e.sub b hb)
    sO := e.sO
    lO := e.lO
    cB := e.cB
    trk := fun b hb => by
      rcases List.mem_cons.mp hb with z | z
      · subst z; exact ⟨o, ho⟩
      · exact e1.trk b z
    st := s
    fr := e1.fr
    len := e.len
    sh := fun i w hw => by
      obtain ⟨v, h1, h2⟩ := e.sh i w hw
      exact ⟨v, h1, h2.mono sm⟩
    ow := fun i w hw => by
      obtain ⟨b, h1, h2, h3, h4, h5⟩ := e.ow i w hw
      obtain ⟨u, hu⟩ := e.trk b h2
      have n1 : b ≠ c.sa := fun q => h4 (q ▸ e.sO)
      have n2 : b ≠ c.la := fun q => h4 (q ▸ e.lO)
      exact ⟨b, h1, List.mem_cons_of_mem _ h2, h3, h4, h5.mono sm ((f b u n1 n2 hu).trans hu.symm)⟩
    inj := e.inj }
/-- a name comes to own what is hidden and not yet owned -/
theorem EnvOk.setOw {i : Nat} {a : Addr} {w : W} (e : EnvOk K fa c N Oi B O H σ r) (hi : i < r.length) (ha : a ∈ O) (hB : B a = none) (hO : a ∉ Oi) (o : Own K fa c (hide O H) H a w) (un : ∀ (j : Nat) u, r[j]? = some (.ow u) → σ[j]? ≠ some (some (.ref a))) :
    EnvOk K fa c N Oi B O H (σ.set i (some (.ref a))) (r.set i (.ow w)) where
  sub := e.sub
  sO := e.sO
  lO := e.lO
  cB := e.cB
  trk := e.trk
  st := e.st
  fr := e.fr
  len := by simp [e.len]
  sh := fun j u hj => by
    by_cases q : i = j
    · subst q
      rw [List.getElem?_set_self hi] at hj
      cases hj
    · rw [List.getElem?_set_ne q] at hj ⊢
      exact e.sh j u hj
  ow := fun j u hj => by
    by_cases q : i = j
    · subst q
      rw [List.getElem?_set_self hi] at hj
      cases hj
      exact ⟨a, List.getElem?_set_self (by rw [e.len]; exact hi), ha, hB, hO, o⟩
    · rw [List.getElem?_set_ne q] at hj ⊢
      exact e.ow j u hj
  inj := fun j k w1 w2 b h1 h2 h3 h4 => by
    by_cases q : i = j
    · subst q
      by_cases q2 : i = k
      · exact q2
      · rw [List.getElem?_set_self (by rw [e.len]; exact hi)] at h3
        cases h3
        rw [List.getElem?_set_ne q2] at h2 h4
        exact absurd h4 (un k w2 h2)
    · rw [List.getElem?_set_ne q] at h1 h3
      by_cases q2 : i = k
      · subst q2
        rw [List.getElem?_set_self (by rw [e.len]; exact hi)] at h4
        cases h4
        exact absurd h3 (un j w1 h1)
      · rw [List.getElem?_set_ne q2] at h2 h4
        exact e.inj j k w1 w2 b h1 h2 h3 h4
/-- an own list is written -/
theorem EnvOk.updOwn {i : Nat} {a : Addr} {w w' : W} {o : HO} (e : EnvOk K fa c N Oi B O H σ r) (hr : r[i]? = some (.ow w)) (hs : σ[i]? = some (some (.ref a))) (hw : Own K fa c (hide O H) (upd H a o) a w') : EnvOk K fa c N Oi B O (upd H a o) σ (r.set i (.ow w')) := by
  obtain ⟨a', g1, g2, g3, g4, g5⟩ := e.ow i w hr
  rw [hs] at g1
  cases g1
  have lt := get_lt' hr
  have he : hide O (upd H a o) = hide O H := hide_upd g2
  exact {
    sub := e.sub
    sO := e.sO
    lO := e.lO
    cB := e.cB
    trk := fun b hb => by
      by_cases q : b = a
      · subst q; exact ⟨o, upd_same⟩
      · rw [upd_ne q]; exact e.trk b hb
    st := by
      obtain ⟨⟨cs, ls, n, h1, h2, h3, h4⟩, h5⟩ := e.st
      have n1 : c.sa ≠ a := fun z => g4 (z ▸ e.sO)
      have n2 : c.la ≠ a := fun z => g4 (z ▸ e.lO)
      have n3 : c.ca ≠ a := fun z => by
        exact e.cB (by rw [z]; exact g3)
      exact ⟨⟨cs, ls, n, by rw [upd_ne n1]; exact h1, by rw [upd_ne n3]; exact h2, by rw [upd_ne n2]; exact h3, h4⟩, h5⟩
    fr := fun b u h1 h2 h3 => by
      have q : b ≠ a := fun z => by rw [z, g3] at h3; cases h3
      rw [upd_ne q]
      exact e.fr b u h1 h2 h3
    len := by simp [e.len]
    sh := fun j u hj => by
      rw [he]
      by_cases q : i = j
      · subst q
        rw [List.getElem?_set_self lt] at hj
        cases hj
      · rw [List.getElem?_set_ne q] at hj
        exact e.sh j u hj
    ow := fun j u hj => by
      rw [he]
      by_cases q : i = j
      · subst q
        rw [List.getElem?_set_self lt] at hj
        cases hj
        exact ⟨a, hs, g2, g3, g4, hw⟩
      · rw [List.getElem?_set_ne q] at hj
        obtain ⟨b, h1, h2, h3, h4, h5⟩ := e.ow j u hj
        have n : b ≠ a := fun z => by subst z; exact q (e.inj i j w u b hr hj hs h1)
        exact ⟨b, h1, h2, h3, h4, h5.mono (Same.refl _) (upd_ne n)⟩
    inj := fun j k w1 w2 b h1 h2 h3 h4 => by
      have back : ∀ {j : Nat} {u : W}, (r.set i (.ow w'))[j]? = some (.ow u) → ∃ u', r[j]? = some (.ow u') := fun {j u} hj => by
        by_cases q : i = j
        · subst q; exact ⟨w, hr⟩
        · rw [List.getElem?_set_ne q] at hj; exact ⟨u, hj⟩
      obtain ⟨u1, k1⟩ := back h1
      obtain ⟨u2, k2⟩ := back h2
      exact e.inj j k u1 u2 b k1 k2 h3 h4 }
end
end DS

set_option Elab.async false
set_option linter.all false
set_option autoImplicit false
set_option maxRecDepth 100000
set_option maxHeartbeats 4000000
/-! DS17: readings of what is new; several values at once. -/
namespace DS
open PySem PySem.Spec PySem.SeqAt PyProof.Rows L2
section
variable {T : Stc} {Ex : XK} {X : Cx} {kw : List (Nat × Nat × List Str × List Nat)} {Nm : List Str} {sc : Scope} {Fn : Str → Bool} {ct : Ct} {a b e : E} {es : EL} {pa pb pe : Expr} {ps : List Expr} {c : StA} {O Oi : List Addr} {H H1 B : Hp} {N n : Nat} {σ : L2.St} {r : Env} {Q : VK} {pos p : Pos}
theorem f_lst (h : PA X ps (rdL T Ex es)) (hl : es.len ≤ 1000) : PE X (.List ps pos) (rdF T Ex (.lst es)) := PE.weak (pe_lst h) fun σ H Q ⟨c, N, Oi, B, O, r, env, q⟩ => by
  have q := M.wp_bind.mp q
  refine ⟨c, N, Oi, B, O, r, env, M.wp_mono ?_ (fun _ _ x => x) (evL_len q)⟩
  intro ws n ⟨hn, q⟩ vs H1 f s rws
  have env1 := env.step f s
  cases hd : datas ws with
  | none => rw [hd] at q; exact q.elim
  | some ds =>
    rw [hd] at q
    have rd := rws.datas hd
    refine ⟨?_, (fin_ansF env1 f q).lst env1.at rd⟩
    rw [rws.len, hn, sizeLine_eq]; omega
theorem f_dnew : PE X (.Dict [] [] pos) (rdF T Ex .dnew) := PE.weak pe_dnewK fun σ H Q ⟨c, N, Oi, B, O, r, env, q⟩ p hp => by
  have q : FinF T c O H Q (.dK []) N := q
  exact fin_ansF env Fr.refl q _ _ (same_new hp) ⟨.dK (by rw [hide_out (env.fresh hp)]; exact upd_same) .nil, fun _ => ⟨p, rfl, hp, .dK upd_same .nil⟩⟩
theorem f_bin {op : Bop} (hK : X.K = T.K) (ha : Snd T Ex X a pa) (hb : Snd T Ex X b pb) : PE X (.BinOp pa (bopOf op) pb pos) (rdF T Ex (.bin op a b)) := PE.weak (pe_op (op_bin op hK) ha.pt hb.pt) fun σ H Q ⟨c, N, Oi, B, O, r, env, q⟩ => by
  unfold evE at q
  refine rd1 env q fun x n v H1 f1 env1 rb q1 => rd1 env1 q1 fun y n2 v2 H2 f2 env2 rb2 q2 => ?_
  obtain ⟨w, hw, q3⟩ := opt_wp q2
  exact ⟨c, O, true, true, x, y, w, env2.at, rb.step f2 env1.sO' env1.lO' env1.trk, rb2, hw, fin_ansF env2 (f1.trans f2) q3⟩
theorem b1_keyF {f : W → Option W} (q : ((evE T.fs T.gs r true a).bind fun x => opt (f x)).wp N (FinF T c O H Q) (EX T Ex c O H)) (env : EOk T c N Oi B O H σ r) : tCB (rB1 T f) (tCons (rdE T Ex true a) tNil) σ H Q := by
  refine rd1 env q fun x n v H1 f1 env1 rb q1 => ?_
  obtain ⟨w, hw, q2⟩ := opt_wp q1
  exact ⟨v, c, O, true, x, w, rfl, env1.at, rb, hw, fin_ansF env1 f1 q2⟩
theorem f_b1 {bb : B1} (tk : TOk T kw) (xo : XOk T Nm sc Fn Ex X) (ha : Snd T Ex X a pa) (hs : star pa = false) (hg : glB sc (b1N bb) = true) (hb : bb = .list ∨ bb = .sorted) : PE X (.Call (.Name (b1N bb) p) [pa] [] pos) (rdF T Ex (.b1 bb a)) := by
  have G := gl_of xo hg
  rcases hb with rfl | rfl
  · exact PE.weak (pe_callTy (call_list_w (T := T) xo.hK) G (mgn tk xo (by decide)) (by decide +kernel) (arg1 ha hs) (by decide) (by decide) (star_each hs) rfl) fun σ H Q ⟨c, N, Oi, B, O, r, env, q⟩ => b1_keyF (f := listW) (by unfold evE at q; exact q) env
  · exact PE.weak (pe_callB (call_sorted_w (T := T) xo.hK xo.calm) G (mgn tk xo (by decide)) (by decide +kernel) (arg1 ha hs) (by decide) (by decide) (star_each hs) rfl) fun σ H Q ⟨c, N, Oi, B, O, r, env, q⟩ => b1_keyF (f := sortedW) (by unfold evE at q; exact q) env
theorem f_lr {p2 pos2 : Pos} (tk : TOk T kw) (xo : XOk T Nm sc Fn Ex X) (ha : Snd T Ex X a pa) (hs : star pa = false) (hg : glB sc "list" = true) (hg2 : glB sc "range" = true) : PE X (.Call (.Name "list" p) [.Call (.Name "range" p2) [pa] [] pos2] [] pos) (rdF T Ex (.b1 .listRange a)) :=
  PE.weak (pe_lr tk xo ha.pt hs hg hg2) fun σ H Q ⟨c, N, Oi, B, O, r, env, q⟩ => lr_key (M.wp_mono (fun w n h H1 f s => fin_ansF (env.step f s) f h) (fun _ _ x => x) q) env

/-- a reading that tells what is new -/
def RFx (T : Stc) (c : StA) (O : List Addr) (H H' : Hp) (e : E) (v : V) (w : W) : Prop := RW T.K T.fa c (hide O H') v w ∧ ((fresh e && isBox w) = true → ∃ a, v = .ref a ∧ H a = none ∧ Own T.K T.fa c (hide (a :: O) H') H' a w)
def FinX (T : Stc) (c : StA) (O : List Addr) (H : Hp) (e : E) (Q : VK) : W → Nat → Prop := fun w n => ∀ v H', Fr c H H' → StOk c n H' → RFx T c O H H' e v w → Q v H'
def rdX (T : Stc) (Ex : XK) (e : E) : TE := fun σ H Q => ∃ c N Oi B O r, EOk T c N Oi B O H σ r ∧ (evE T.fs T.gs r false e).wp N (FinX T c O H e Q) (EX T Ex c O H)
theorem x_old (hf : fresh e = false) (h : PE X pe (rdE T Ex false e)) : PE X pe (rdX T Ex e) := PE.weak h fun σ H Q ⟨c, N, Oi, B, O, r, env, q⟩ =>
  ⟨c, N, Oi, B, O, r, env, M.wp_mono (fun w n k v H' f s rb => k v H' f s ⟨rb.plain, fun z => by rw [hf] at z; cases z⟩) (fun _ _ x => x) q⟩
theorem x_new (h : PE X pe (rdF T Ex e)) : PE X pe (rdX T Ex e) := PE.weak h fun σ H Q ⟨c, N, Oi, B, O, r, env, q⟩ =>
  ⟨c, N, Oi, B, O, r, env, M.wp_mono (fun w n k v H' f s rb => k v H' f s ⟨rb.1, fun z => rb.2 (by simp only [Bool.and_eq_true] at z; exact z.2)⟩) (fun _ _ x => x) q⟩
theorem x_F {tF : TE} (hf : ∀ σ H Q, rdF T Ex e σ H Q → tF σ H Q) : ∀ σ H Q, rdX T Ex e σ H Q → (fresh e = true) → tF σ H Q := fun σ H Q ⟨c, N, Oi, B, O, r, env, q⟩ hfr =>
  hf σ H Q ⟨c, N, Oi, B, O, r, env, M.wp_mono (fun w n k v H' f s rb => k v H' f s ⟨rb.1, fun z => rb.2 (by
    simp only [Bool.and_eq_true] at z; exact z.2)⟩) (fun _ _ x => x) q⟩
end
section
variable {T : Stc} {Ex : XK} {X : Cx} {ct : Ct}
theorem sX (tk : TOk T ct.kw) (hf : ct.fn = T.fn) (hgn : ct.gn = T.gn) (e : E) (sc : Scope) (Fn : Str → Bool) (Ex : XK) (X : Cx) (pe : Expr) (xo : XOk T ct.N sc Fn Ex X) (h : chkE ct sc e pe = true) : PE X pe (rdX T Ex e) := by
  cases hfr : fresh e with
  | false => exact x_old hfr (sE tk hf hgn e sc Fn Ex X pe xo h).pf
  | true =>
    refine x_new ?_
    cases e with
    | lst es =>
      unfold chkE at h
      split at h
      · simp only [Bool.and_eq_true, decide_eq_true_eq] at h
        exact f_lst (sL tk hf hgn es sc Fn Ex X _ xo h.1).toPA h.2
      · cases h
    | dnew =>
      unfold chkE at h
      split at h
      · exact f_dnew
      · cases h
    | bin op a b =>
      unfold chkE at h
      split at h
      · simp only [Bool.and_eq_true, decide_eq_true_eq] at h
        obtain ⟨⟨h1, h2⟩, h3⟩ := h
        rw [← h1]
        exact f_bin xo.hK (sE tk hf hgn a sc Fn Ex X _ xo h2) (sE tk hf hgn b sc Fn Ex X _ xo h3)
      · cases h
    | b1 b a =>
      unfold chkE at h
      split at h
      · simp only [Bool.and_eq_true, decide_eq_true_eq] at h
        obtain ⟨⟨h1, h2⟩, h3⟩ := h
        subst h1
        by_cases hb : b = .listRange
        · subst hb
          dsimp only [b1In] at h3
          split at h3
          · simp only [Bool.and_eq_true, decide_eq_true_eq] at h3
            obtain ⟨⟨g1, g2⟩, g3⟩ := h3
            subst g1
            exact f_lr tk xo (sE tk hf hgn a sc Fn Ex X _ xo g3) (chk_star g3) h2 g2
          · cases h3
        · have hin : b1In b = none := by cases b <;> first | rfl | exact absurd rfl hb | (simp [fresh] at hfr)
          rw [hin] at h3
          exact f_b1 tk xo (sE tk hf hgn a sc Fn Ex X _ xo h3) (chk_star h3) h2 (by
            cases b <;> first | exact .inl rfl | exact .inr rfl | (exact absurd rfl hb) | (simp [fresh] at hfr))
      · cases h
    | comp tg it cs elt =>
      unfold chkE at h
      split at h
      · simp only [Bool.and_eq_true, decide_eq_true_eq] at h
        obtain ⟨⟨⟨⟨⟨⟨h1, h2⟩, h3⟩, h4⟩, h5⟩, h6⟩, h7⟩ := h
        subst h1
        exact compF tk hf hgn xo h2 h3 h4 h5 h6 h7
      · cases h
    | _ => simp [fresh] at hfr
end
end DS

set_option Elab.async false
set_option linter.all false
set_option autoImplicit false
set_option maxRecDepth 100000
set_option maxHeartbeats 4000000
/-! DS18: what is wanted behind statements; stores of names. -/
namespace DS
open PySem PySem.Spec PySem.SeqAt PyProof.Rows L2

inductive Itms (T : Stc) (c : StA) (Oi O : List Addr) (B H : Hp) : EL → List V → List W → List Addr → Prop
  | nil : Itms T c Oi O B H .nil [] [] []
  | sh {e : E} {es : EL} {v : V} {vs : List V} {w : W} {ws : List W} {as : List Addr} : (fresh e && isBox w) = false → RW T.K T.fa c (hide O H) v w → Itms T c Oi O B H es vs ws as → Itms T c Oi O B H (.cons e es) (v :: vs) (w :: ws) as
  | ow {e : E} {es : EL} {a : Addr} {vs : List V} {w : W} {ws : List W} {as : List Addr} : (fresh e && isBox w) = true → a ∈ O → B a = none → a ∉ Oi → Own T.K T.fa c (hide O H) H a w → Itms T c Oi O B H es vs ws as →
      Itms T c Oi O B H (.cons e es) (.ref a :: vs) (w :: ws) (a :: as)
/-- several values, what is new hidden -/
def FinLo (T : Stc) (c : StA) (Oi : List Addr) (B : Hp) (O : List Addr) (H : Hp) (σ : L2.St) (r : Env) (es : EL) (Q : List V → Hp → Prop) : List W → Nat → Prop := fun ws n => ∀ vs O' H' as, Fr c H H' → EOk T c n Oi B O' H' σ r → (∀ b ∈ O, b ∈ O') →
  Same (hide O H) (hide O' H') → Itms T c Oi O' B H' es vs ws as → as.Nodup → (∀ a ∈ as, a ∉ O) → Q vs H'
def rdLo (T : Stc) (Ex : XK) (es : EL) : TA := fun σ H Q => ∃ c N Oi B O r, EOk T c N Oi B O H σ r ∧ (evL T.fs T.gs r es).wp N (FinLo T c Oi B O H σ r es Q) (EX T Ex c O H)
section
variable {T : Stc} {Ex : XK} {X : Cx} {kw : List (Nat × Nat × List Str × List Nat)} {Nm : List Str} {sc : Scope} {Fn : Str → Bool} {ct : Ct} {e : E} {es : EL} {p : Expr} {ps : List Expr} {c : StA} {O O1 Oi : List Addr} {H H1 B : Hp} {N n : Nat} {σ : L2.St} {r : Env}
theorem XR.sub {x : Exc} {cls : Value} {d : Option Addr} (hs : ∀ b ∈ O, b ∈ O1) (h : XR T O1 H x cls d) : XR T O H x cls d := by
  obtain ⟨h1, h2⟩ := h
  refine ⟨h1, ?_⟩
  rcases h2 with h2 | ⟨dx, fs, h3, h4, h5, h6⟩
  · exact .inl h2
  · exact .inr ⟨dx, fs, h3, fun z => h4 (hs _ z), h5, h6.mono (hide_sub hs)⟩
theorem EX.wider (f : Fr c H H1) (hs : ∀ b ∈ O, b ∈ O1) {x : Exc} {n : Nat} (h : EX T Ex c O H x n) : EX T Ex c O1 H1 x n := fun cls d H' f' s q => h cls d H' (f.trans f') s (q.sub hs)
theorem lo_nil : PA X [] (rdLo T Ex .nil) := PA.weak pa_nil fun σ H Q ⟨c, N, Oi, B, O, r, env, q⟩ => by
  have q : FinLo T c Oi B O H σ r .nil Q [] N := q
  exact q [] O H [] Fr.refl env (fun _ h => h) (Same.refl _) .nil List.nodup_nil (fun _ h => by simp at h)
theorem lo_cons (h1 : PE X p (rdX T Ex e)) (h2 : PA X ps (rdLo T Ex es)) (hs : star p = false) : PA X (p :: ps) (rdLo T Ex (.cons e es)) :=
  PA.weak (pa_cons h1 h2 (star_each hs)) fun σ H Q ⟨c, N, Oi, B, O, r, env, q⟩ => by
    unfold evL at q
    refine ⟨c, N, Oi, B, O, r, env, M.wp_mono (fun w n q v H1 f s rx => ?_) (fun _ _ x => x) (M.wp_bind.mp q)⟩
    have q := M.wp_bind.mp q
    obtain ⟨rw1, ow1⟩ := rx
    cases hb : (fresh e && isBox w) with
    | false =>
      have env1 := env.step f s
      refine ⟨c, n, Oi, B, O, r, env1, M.wp_mono (fun ws n2 q2 vs O' H' as f2 env2 sub sm it nd no => ?_) (fun x n h => h.step f) q⟩
      have q2 : FinLo T c Oi B O H σ r (.cons e es) Q (w :: ws) n2 := q2
      exact q2 (v :: vs) O' H' as (f.trans f2) env2 sub ((f.hide env.sO' env.lO').trans sm) (.sh hb (rw1.mono sm) it) nd no
    | true =>
      obtain ⟨a, rfl, ha, own⟩ := ow1 hb
      have hta : ∃ o, H1 a = some o := by cases own <;> exact ⟨_, by assumption⟩
      obtain ⟨o, ho⟩ := hta
      have env1 := env.hideOld f s ha ho
      have haO : a ∉ O := env.fresh ha
      have hBa : B a = none := fr_none env.fr env.st ha
      refine ⟨c, n, Oi, B, a :: O, r, env1, M.wp_mono (fun ws n2 q2 vs O' H' as f2 env2 sub sm it nd no => ?_) (fun x n h => h.wider f fun b hb => List.mem_cons_of_mem _ hb) q⟩
      have q2 : FinLo T c Oi B O H σ r (.cons e es) Q (w :: ws) n2 := q2
      have n1 : a ≠ c.sa := fun z => haO (z ▸ env.sO')
      have n2' : a ≠ c.la := fun z => haO (z ▸ env.lO')
      refine q2 (.ref a :: vs) O' H' (a :: as) (f.trans f2) env2 (fun b hb => sub b (List.mem_cons_of_mem _ hb)) ((same_hideOld f env.sO' env.lO' ha).trans sm) (.ow hb (sub a List.mem_cons_self) hBa (fun z => haO (env.sub _ z)) (own.mono sm ?_) it) (List.nodup_cons.mpr ⟨fun z => no a z List.mem_cons_self, nd⟩) fun b hb => ?_
      · exact (f2 a o n1 n2' ho).trans ho.symm
      · rcases List.mem_cons.mp hb with z | z
        · subst z; exact haO
        · exact fun k => no b z (List.mem_cons_of_mem _ k)
/-- the names are stored, from the left -/
def setAll (σ : L2.St) : List Nat → List V → L2.St
  | i :: is, v :: vs => setAll (σ.set i (some v)) is vs
  | _, _ => σ
theorem itms_set {O : List Addr} {H : Hp} : ∀ {es : EL} {vs : List V} {ws : List W} {as : List Addr} {is : List Nat} {σ : L2.St} {r r' : Env}, Itms T c Oi O B H es vs ws as → parE is es ws r = some r' → EOk T c n Oi B O H σ r → as.Nodup →
    (∀ a ∈ as, ∀ (j : Nat) u, r[j]? = some (.ow u) → σ[j]? ≠ some (some (.ref a))) → EOk T c n Oi B O H (setAll σ is vs) r' ∧ vs.length = is.length
  | .nil, _, _, _, is, σ, r, r', .nil, hp, env, _, _ => by
    cases is with
    | nil => unfold parE at hp; cases hp; exact ⟨env, rfl⟩
    | cons _ _ => simp [parE] at hp
  | .cons e es, _, _, _, is, σ, r, r', it, hp, env, nd, un => by
    cases is with
    | nil => cases it <;> simp [parE] at hp
    | cons i is =>
      cases it with
      | sh hb rw1 it =>
        rename_i v vs w ws
        unfold parE at hp
        split at hp
        · rename_i r1 h1
          have h1 : (if i < r.length then some (r.set i (if (fresh e && isBox w) = true then .ow w else .sh w)) else none) = some r1 := h1
          rw [hb] at h1
          obtain ⟨hi, rfl⟩ := if_some h1
          have env1 := env.set hi rw1
          obtain ⟨g1, g2⟩ := itms_set it hp env1 nd fun a ha j u hj => by
            by_cases q : i = j
            · subst q
              rw [if_neg Bool.false_ne_true, List.getElem?_set_self hi] at hj
              cases hj
            · rw [List.getElem?_set_ne q] at hj ⊢
              exact un a ha j u hj
          exact ⟨g1, by rw [List.length_cons, List.length_cons, g2]⟩
        · cases hp
      | ow hb ha hB hO own it =>
        rename_i a vs w ws as
        unfold parE at hp
        split at hp
        · rename_i r1 h1
          have h1 : (if i < r.length then some (r.set i (if (fresh e && isBox w) = true then .ow w else .sh w)) else none) = some r1 := h1
          rw [hb] at h1
          obtain ⟨hi, rfl⟩ := if_some h1
          have env1 := env.setOw hi ha hB hO own fun j u hj => un a List.mem_cons_self j u hj
          obtain ⟨hna, nd⟩ := List.nodup_cons.mp nd
          obtain ⟨g1, g2⟩ := itms_set it hp env1 nd fun b hb j u hj => by
            by_cases q : i = j
            · subst q
              rw [List.getElem?_set_self (by rw [env.len]; exact hi)]
              intro z
              cases z
              exact hna hb
            · rw [if_pos rfl, List.getElem?_set_ne q] at hj
              rw [List.getElem?_set_ne q]
              exact un b (List.mem_cons_of_mem _ hb) j u hj
          exact ⟨g1, by rw [List.length_cons, List.length_cons, g2]⟩
        · cases hp

/-! ### statements -/
def FinS (T : Stc) (c : StA) (Oi : List Addr) (B : Hp) (O : List Addr) (H : Hp) (D : Ends) : Fl × Env → Nat → Prop := fun q n => ∀ O' H' σ', EOk T c n Oi B O' H' σ' q.2 → Same (hide O H) (hide O' H') → match q.1 with
  | .nx => D.nx σ' H'
  | .bk => D.bk σ' H'
  | .ct => D.ct σ' H'
  | .rt w => ∀ v, RW T.K T.fa c (hide O' H') v w → D.rt v H'
theorem FinS.step {D : Ends} {q : Fl × Env} (s : Same (hide O H) (hide O1 H1)) (h : FinS T c Oi B O H D q n) : FinS T c Oi B O1 H1 D q n := fun O' H' σ' env sm => h O' H' σ' env (s.trans sm)
def rdS (T : Stc) (Ex : XK) (fu : Nat) (s : S) : TS := fun D σ H => ∃ c N Oi B O r, EOk T c N Oi B O H σ r ∧ (evS T.fs T.gs fu s r).wp N (FinS T c Oi B O H D) (EX T Ex c Oi B)
def rdSL (T : Stc) (Ex : XK) (fu : Nat) (s : SL) : TS := fun D σ H => ∃ c N Oi B O r, EOk T c N Oi B O H σ r ∧ (evSL T.fs T.gs fu s r).wp N (FinS T c Oi B O H D) (EX T Ex c Oi B)
theorem PS.weak {st : Stmt} {t t' : TS} (h : PS X st t) (i : ∀ D σ H, t' D σ H → t D σ H) : PS X st t' := ⟨fun pins s σ H D I q => h.run pins s σ H D I (i D σ H q)⟩
theorem PSs.weak {st : List Stmt} {t t' : TS} (h : PSs X st t) (i : ∀ D σ H, t' D σ H → t D σ H) : PSs X st t' := ⟨fun pins s σ H D I q => h.run pins s σ H D I (i D σ H q)⟩
theorem PS.alt {st : Stmt} {t u : TS} (h : PS X st t) (k : PS X st u) : PS X st (fun D σ H => t D σ H ∨ u D σ H) := ⟨fun pins s σ H D I q => q.elim (h.run pins s σ H D I) (k.run pins s σ H D I)⟩
/-- an expression in a statement -/
theorem rdB1 {β : Type} {bw : Bool} {a : E} {f : W → M β} {Qf : β → Nat → Prop} {P : VK} (env : EOk T c N Oi B O H σ r) (h : ((evE T.fs T.gs r bw a).bind f).wp N Qf (EX T Ex c Oi B))
    (k : ∀ w n v H1, Fr c H H1 → EOk T c n Oi B O H1 σ r → RB T c O H1 bw v w → (f w).wp n Qf (EX T Ex c Oi B) → P v H1) : rdE T Ex bw a σ H P :=
  ⟨c, N, Oi, B, O, r, env, M.wp_mono (fun w n hq v H1 f1 s1 rb => k w n v H1 f1 (env.step f1 s1) rb hq) (fun x n h => h.wider env.fr env.sub) (M.wp_bind.mp h)⟩
theorem rdB1T {β : Type} {a : E} {f : Bool → M β} {Qf : β → Nat → Prop} {P : Bool → Hp → Prop} (env : EOk T c N Oi B O H σ r) (h : ((evE T.fs T.gs r false a).bind fun x => (opt (wBool x)).bind f).wp N Qf (EX T Ex c Oi B))
    (k : ∀ b n H1, Fr c H H1 → EOk T c n Oi B O H1 σ r → (f b).wp n Qf (EX T Ex c Oi B) → P b H1) : rdT T Ex a σ H P := by
  rw [← M.bind_assoc] at h
  exact ⟨c, N, Oi, B, O, r, env, M.wp_mono (fun b n hq H1 f1 s1 => k b n H1 f1 (env.step f1 s1) hq) (fun x n h => h.wider env.fr env.sub) (M.wp_bind.mp h)⟩
end
end DS

set_option Elab.async false
set_option linter.all false
set_option autoImplicit false
set_option maxRecDepth 100000
set_option maxHeartbeats 4000000
/-! DS19: how stores are ordered; the text of statements. -/
namespace DS
open PySem PySem.Spec PySem.SeqAt PyProof.Rows L2
def swNo (sc : Scope) (value : Expr) (tg : Option Expr) : Bool := match value with
  | .SetComp _ _ _ _ => false
  | .DictComp _ _ _ _ _ => false
  | .ListComp _ _ s p => match tg with
    | some (.Name t q) => !(sc.names.lookup t == some .local && q.line == p.line && !(s.names.any fun (n, k) => n == t && (k == .local || k == .cell)))
    | some _ => true
    | none => false
  | _ => true
theorem swNo_ok {env : PySem.Env} {value : Expr} {tg : Option Expr} {l : Nat} (hk : env.scope.kind = .function) (h : swNo env.scope value tg = true) : swapsWith value tg l env = pure false := by
  have hb : env.blockKind = .function := by unfold Env.blockKind; rw [hk]; rfl
  cases value <;> first
    | rfl
    | (simp [swNo] at h; done)
    | skip
  rename_i elt gs s p
  rcases tg with _ | t
  · simp [swNo] at h
  cases t <;> first
    | rfl
    | skip
  · rename_i x q
    unfold swNo at h
    simp only [Bool.not_eq_true'] at h
    unfold swapsWith
    simp only [hb, Expr.pos]
    show pure _ = pure _
    congr 1
def isTL : Expr → Bool
  | .Tuple _ _ _ => true
  | .List _ _ => true
  | _ => false
theorem sw_none {env : PySem.Env} {value tg : Expr} (h : (isTL tg && isTup value) = false) : swappedStores [tg] value env = pure none := by
  cases tg <;> cases value <;> first | rfl | (simp [isTL, isTup] at h)
/-- two, three plain local names from as many values -/
def locN (sc : Scope) (l : Nat) : Expr → Bool
  | .Name x p => sc.names.lookup x == some .local && p.line == l
  | _ => false
def sw2 (sc : Scope) (x y : Str) (px py : Pos) (a b : Expr) : Bool := sc.names.lookup x == some .local && sc.names.lookup y == some .local && py.line == px.line && !(x == y) && !(star a) && !(star b) && !(foldedForSure 8 a && foldedForSure 8 b) && !(constantsAlone 8 a && constantsAlone 8 b)
theorem sw2_ok {env : PySem.Env} {x y : Str} {px py pt pt2 : Pos} {kt k2 : Nat} {a b : Expr} (hk : env.scope.kind = .function) (h : sw2 env.scope x y px py a b = true) :
    swappedStores [.Tuple [.Name x px, .Name y py] kt pt] (.Tuple [a, b] k2 pt2) env = pure (some [x, y]) := by
  have hb : env.blockKind = .function := by unfold Env.blockKind; rw [hk]; rfl
  unfold sw2 at h
  simp only [Bool.and_eq_true, Bool.not_eq_true'] at h
  obtain ⟨⟨⟨⟨⟨⟨⟨h1, h2⟩, h3⟩, h4⟩, h5⟩, h6⟩, h7⟩, h8⟩ := h
  have h1 : (env.kindOf x == some .local) = true := h1
  have h2 : (env.kindOf y == some .local) = true := h2
  have h4' : (y == x) = false := by rw [beq_eq_false_iff_ne] at h4 ⊢; exact fun z => h4 z.symm
  have ep : ∀ (z : Str) (q : Pos), (Expr.Name z q).pos.line = q.line := fun _ _ => rfl
  have e1 : (env.kindOf x == some .local && px.line == (Expr.Name x px).pos.line) = true := by rw [h1]; show (true && px.line == px.line) = true; simp
  have e2 : (env.kindOf y == some .local && py.line == (Expr.Name x px).pos.line) = true := by rw [h2]; exact h3
  unfold swappedStores
  dsimp only [List.head?_cons, Option.map_some, Option.getD_some, ep, List.filterMap_cons, List.filterMap_nil]
  simp only [e1, e2, if_true]
  rw [if_neg (by rw [hb]; exact Bool.false_ne_true), if_neg (by
    intro z
    simp only [List.any_cons, List.any_nil, Bool.or_false, Bool.or_eq_true] at z
    rcases z with z | z
    · cases a <;> first | (exact absurd z Bool.false_ne_true) | (exact absurd h5.symm Bool.false_ne_true)
    · cases b <;> first | (exact absurd z Bool.false_ne_true) | (exact absurd h6.symm Bool.false_ne_true)), if_neg (by simp [List.eraseDups_cons, h4, h4']), if_neg (by simpa using h7), if_neg (by simpa using h8)]
def sw3 (sc : Scope) (x y z : Str) (px py pz : Pos) (a b c : Expr) : Bool := sc.names.lookup x == some .local && sc.names.lookup y == some .local && sc.names.lookup z == some .local && py.line == px.line && pz.line == px.line && !(x == y) && !(x == z) && !(y == z) &&
  !(star a) && !(star b) && !(star c) && !(foldedForSure 8 a && (foldedForSure 8 b && foldedForSure 8 c)) && !(constantsAlone 8 a && (constantsAlone 8 b && constantsAlone 8 c))
theorem sw3_ok {env : PySem.Env} {x y z : Str} {px py pz pt pt2 : Pos} {kt k2 : Nat} {a b c : Expr} (hk : env.scope.kind = .function) (h : sw3 env.scope x y z px py pz a b c = true) :
    swappedStores [.Tuple [.Name x px, .Name y py, .Name z pz] kt pt] (.Tuple [a, b, c] k2 pt2) env = pure (some [x, y, z]) := by
  have hb : env.blockKind = .function := by unfold Env.blockKind; rw [hk]; rfl
  unfold sw3 at h
  simp only [Bool.and_eq_true, Bool.not_eq_true'] at h
  obtain ⟨⟨⟨⟨⟨⟨⟨⟨⟨⟨⟨⟨h1, h2⟩, h3⟩, h4⟩, h5⟩, h6⟩, h7⟩, h8⟩, h9⟩, h10⟩, h11⟩, h12⟩, h13⟩ := h
  have h1 : (env.kindOf x == some .local) = true := h1
  have h2 : (env.kindOf y == some .local) = true := h2
  have h3 : (env.kindOf z == some .local) = true := h3
  have fl : ∀ {u v : Str}, (u == v) = false → (v == u) = false := fun {u v} h => by rw [beq_eq_false_iff_ne] at h ⊢; exact fun z => h z.symm
  have ep : ∀ (z : Str) (q : Pos), (Expr.Name z q).pos.line = q.line := fun _ _ => rfl
  have e1 : (env.kindOf x == some .local && px.line == (Expr.Name x px).pos.line) = true := by rw [h1]; show (true && px.line == px.line) = true; simp
  have e2 : (env.kindOf y == some .local && py.line == (Expr.Name x px).pos.line) = true := by rw [h2]; exact h4
  have e3 : (env.kindOf z == some .local && pz.line == (Expr.Name x px).pos.line) = true := by rw [h3]; exact h5
  unfold swappedStores
  dsimp only [List.head?_cons, Option.map_some, Option.getD_some, ep, List.filterMap_cons, List.filterMap_nil]
  simp only [e1, e2, e3, if_true]
  rw [if_neg (by rw [hb]; exact Bool.false_ne_true), if_neg (by
    intro z
    simp only [List.any_cons, List.any_nil, Bool.or_false, Bool.or_eq_true] at z
    rcases z with z | z | z
    · cases a <;> first | (exact absurd z Bool.false_ne_true) | (exact absurd h9.symm Bool.false_ne_true)
    · cases b <;> first | (exact absurd z Bool.false_ne_true) | (exact absurd h10.symm Bool.false_ne_true)
    · cases c <;> first | (exact absurd z Bool.false_ne_true) | (exact absurd h11.symm Bool.false_ne_true)), if_neg (by simp [List.eraseDups_cons, h6, h7, h8, fl h6, fl h7, fl h8]), if_neg (by simpa using h12), if_neg (by simpa using h13)]
/-- a name that is not plain among them -/
def celN (sc : Scope) (ts : List Expr) : Bool := ts.any fun
  | .Name x _ => !(sc.names.lookup x == some .local)
  | _ => true
/-- no exchange of stores -/
def swT (sc : Scope) (ts vs : List Expr) : Bool := decide (ts.length = vs.length) && (decide (3 < ts.length) || (vs.all (foldedForSure 8) && !(vs.any star)) || celN sc ts)
theorem filt_short {α β : Type} {f : α → Option β} : ∀ {l : List α}, (∃ x ∈ l, f x = none) → (l.filterMap f).length < l.length
  | [], h => by obtain ⟨x, hx, _⟩ := h; simp at hx
  | a :: l, h => by
    obtain ⟨x, hx, e⟩ := h
    rcases List.mem_cons.mp hx with rfl | hx
    · rw [List.filterMap_cons_none e, List.length_cons]
      exact Nat.lt_succ_of_le (List.length_filterMap_le f l)
    · have ih := filt_short ⟨x, hx, e⟩
      cases q : f a with
      | none => rw [List.filterMap_cons_none q, List.length_cons]; omega
      | some b => rw [List.filterMap_cons_some q, List.length_cons, List.length_cons]; omega
theorem swT_ok {env : PySem.Env} {ts vs : List Expr} {pt pt2 : Pos} {kt k2 : Nat} (h : swT env.scope ts vs = true) : swappedStores [.Tuple ts kt pt] (.Tuple vs k2 pt2) env = pure none := by
  unfold swT at h
  simp only [Bool.and_eq_true, Bool.or_eq_true, decide_eq_true_eq] at h
  obtain ⟨h1, h2⟩ := h
  unfold swappedStores
  dsimp only
  rcases h2 with (h2 | h2) | h2
  · rw [if_pos]
    simp only [Bool.or_eq_true, Bool.not_eq_true', Bool.or_eq_false_iff, beq_eq_false_iff_ne]
    exact .inl (.inl ⟨by omega, by omega⟩)
  · split
    · rfl
    · split
      · rfl
      · split
        · rfl
        · rw [if_pos h2.1]
  · split
    · rfl
    · split
      · rfl
      · rw [if_pos]
        unfold celN at h2
        obtain ⟨x, hx, e⟩ := List.any_eq_true.mp h2
        have q := filt_short (f := fun | .Name id pos => if (env.kindOf id == some .local && pos.line == ((ts.head?.map (·.pos.line)).getD 0)) = true then some id else none | _ => none) ⟨x, hx, by
          cases x <;> first | rfl | skip
          rename_i y p
          have e : (!(env.kindOf y == some .local)) = true := e
          have e : (env.kindOf y == some .local) = false := by simpa using e
          dsimp only
          rw [e]
          rfl⟩
        simp only [Bool.or_eq_true, bne_iff_ne]
        exact .inl (Nat.ne_of_lt q)
end DS

set_option Elab.async false
set_option linter.all false
set_option autoImplicit false
set_option maxRecDepth 100000
set_option maxHeartbeats 4000000
/-! DS20: statements. -/
namespace DS
open PySem PySem.Spec PySem.SeqAt PyProof.Rows L2

def lcB (sc : Scope) (ptg pe : Expr) : Bool := match ptg with
  | .Name y py => match pe with
    | .ListComp _ _ scope pos => decide (sc.names.lookup y = some .local) && (py.line == pos.line) && !(scope.names.any fun (n, k) => n == y && (k == .local || k == .cell))
    | _ => false
  | _ => false
def parTg : List Nat → TgL
  | [] => .nil
  | i :: is => .cons (.n i) (parTg is)
def swB (sc : Scope) (ts vs : List Expr) : Bool := match ts with
  | [.Name x px, .Name y py] => match vs with
    | [a, b] => sw2 sc x y px py a b
    | _ => false
  | [.Name x px, .Name y py, .Name z pz] => match vs with
    | [a, b, c] => sw3 sc x y z px py pz a b c
    | _ => false
  | _ => false
mutual
def chkS (ct : Ct) (sc : Scope) (F : Str → Bool) : S → Stmt → Bool
  | .asg tg e, st => match st with
    | .Assign [ptg] pe _ => chkE ct sc e pe && chkTg ct sc F tg ptg && !(isTL ptg && isTup pe) && (swNo sc pe (some ptg) || lcB sc ptg pe)
    | _ => false
  | .par is es, st => match st with
    | .Assign [.Tuple pts _ _] (.Tuple pvs _ _) _ => chkL ct sc es pvs && chkTgs ct sc F (parTg is) pts && decide (es.len ≤ 1000) && (swB sc pts pvs || swT sc pts pvs)
    | _ => false
  | .ret e, st => match st with
    | .Return (some pe) _ => chkE ct sc e pe
    | _ => false
  | .retN, st => match st with
    | .Return none _ => true
    | _ => false
  | .ite c a b, st => match st with
    | .If pc pa pb _ => chkE ct sc c pc && chkSL ct sc F a pa && chkSL ct sc F b pb
    | _ => false
  | .forr tg it body, st => match st with
    | .For ptg pit pb [] _ => chkTg ct sc F tg ptg && chkI ct sc it ptg pit && chkSL ct sc F body pb
    | _ => false
  | .whl c body, st => match st with
    | .While pc pb [] _ => chkE ct sc c pc && chkSL ct sc F body pb
    | _ => false
  | .app i e, st => match st with
    | .Expr (.Call (.Attribute (.Name x _) m apos) [pe] [] cpos) _ => nameB ct sc i x && decide (m = ("append" : Str)) && chkE ct sc e pe && (apos.endLine == cpos.line)
    | _ => false
  | .ext i e, st => match st with
    | .Expr (.Call (.Attribute (.Name x _) m apos) [pe] [] cpos) _ => nameB ct sc i x && decide (m = ("extend" : Str)) && chkE ct sc e pe && (apos.endLine == cpos.line)
    | _ => false
  | .popTo j i, st => match st with
    | .Assign [.Name y py] (.Call (.Attribute (.Name x _) m apos) [] [] cpos) _ => nameB ct sc i x && decide (m = ("pop" : Str)) && (apos.endLine == cpos.line) && chkTg ct sc F (.n j) (.Name y py)
    | _ => false
  | .put i k e, st => match st with
    | .Assign [.Subscript (.Name x _) pk _] pe _ => nameB ct sc i x && chkE ct sc k pk && chkE ct sc e pe && !(isSl pk)
    | _ => false
  | .ex e, st => match st with
    | .Expr pe _ => chkE ct sc e pe && swNo sc pe none
    | _ => false
  | .brk, st => match st with
    | .Break _ => true
    | _ => false
  | .cnt, st => match st with
    | .Continue _ => true
    | _ => false
  | .pas, st => match st with
    | .Pass _ => true
    | _ => false
  | .rse, st => match st with
    | .Raise _ _ _ => true
    | _ => false
def chkSL (ct : Ct) (sc : Scope) (F : Str → Bool) : SL → List Stmt → Bool
  | .nil, sts => match sts with
    | [] => true
    | _ => false
  | .cons s ss, sts => match sts with
    | st :: sts => chkS ct sc F s st && chkSL ct sc F ss sts
    | [] => false
end
/-- the text's place: a def's body -/
structure XSt (T : Stc) (N : List Str) (sc : Scope) (F : Str → Bool) (Ex : XK) (X : Cx) : Prop where
  xo : XOk T N sc F Ex X
  kind : sc.kind = .function
  po : PassesOwn (model X.prog X.w) X.A X.env X.xe
section
variable {T : Stc} {Ex : XK} {X : Cx} {kw : List (Nat × Nat × List Str × List Nat)} {Nm : List Str} {sc : Scope} {Fn : Str → Bool} {ct : Ct} {e : E} {es : EL} {p : Expr} {ps : List Expr} {c : StA} {O O1 Oi : List Addr} {H H1 B : Hp} {N n fu : Nat} {σ : L2.St} {r : Env} {D : Ends} {pos : Pos}
/-- name = e -/
theorem asg_key {i : Nat} (h : rdS T Ex fu (.asg (.n i) e) D σ H) : rdX T Ex e σ H fun x H1 => D.nx (σ.set i (some x)) H1 := by
  obtain ⟨c, N, Oi, B, O, r, env0, q⟩ := h
  unfold evS at q
  obtain ⟨O1, env, hs⟩ := env0.dem (escE false e)
  generalize dem r (escE false e) = r1 at q env
  have sm : Same (hide O H) (hide O1 H) := hide_sub hs
  refine ⟨c, N, Oi, B, O1, r1, env, M.wp_mono (fun w n q v H1 f s rx => ?_) (fun x n h => h.wider env.fr env.sub) (M.wp_bind.mp q)⟩
  obtain ⟨r2, hr, q⟩ := opt_wp (M.wp_bind.mp q)
  have q : FinS T c Oi B O H D (.nx, r2) n := q
  have hp : parE [i] (.cons e .nil) [w] r1 = some r2 := by unfold parE; rw [hr]; rfl
  obtain ⟨rw1, ow1⟩ := rx
  cases hb : (fresh e && isBox w) with
  | false =>
    have env1 := env.step f s
    obtain ⟨g, _⟩ := itms_set (.sh hb rw1 .nil) hp env1 List.nodup_nil (fun a ha => by simp at ha)
    exact q O1 H1 _ g (sm.trans (f.hide env.sO' env.lO'))
  | true =>
    obtain ⟨a, rfl, ha, own⟩ := ow1 hb
    have hta : ∃ o, H1 a = some o := by cases own <;> exact ⟨_, by assumption⟩
    obtain ⟨o, ho⟩ := hta
    have env1 := env.hideOld f s ha ho
    have haO : a ∉ O1 := env.fresh ha
    obtain ⟨g, _⟩ := itms_set (.ow hb List.mem_cons_self (fr_none env.fr env.st ha) (fun z => haO (env.sub _ z)) own .nil) hp env1 (by simp) (fun b hb j u hj hz => by
      have hb : b = a := by simpa using hb
      subst hb
      obtain ⟨b', h1, h2, _⟩ := env.ow j u hj
      rw [hz] at h1
      cases h1
      exact haO h2)
    exact q _ H1 _ g (sm.trans (same_hideOld f env.sO' env.lO' ha))
/-- several names at once -/
theorem par_key {is : List Nat} (h : rdS T Ex fu (.par is es) D σ H) : rdLo T Ex es σ H fun vs H1 => vs.length = is.length ∧ ∀ H2, Same H1 H2 → D.nx (setAll σ is vs) H2 := by
  obtain ⟨c, N, Oi, B, O, r, env0, q⟩ := h
  unfold evS at q
  obtain ⟨O1, env, hs⟩ := env0.dem (escL es)
  generalize dem r (escL es) = r1 at q env
  have sm : Same (hide O H) (hide O1 H) := hide_sub hs
  refine ⟨c, N, Oi, B, O1, r1, env, M.wp_mono (fun ws n q vs O' H1 as f env1 sub sm1 it nd no => ?_) (fun x n h => h.wider env.fr env.sub) (M.wp_bind.mp q)⟩
  obtain ⟨r2, hr, q⟩ := opt_wp (M.wp_bind.mp q)
  have q : FinS T c Oi B O H D (.nx, r2) n := q
  obtain ⟨g, hl⟩ := itms_set it hr env1 nd (fun b hb j u hj hz => by
    obtain ⟨b', h1, h2, _⟩ := env.ow j u hj
    rw [hz] at h1
    cases h1
    exact no _ hb h2)
  exact ⟨hl, fun H2 s2 => q O' H2 _ (g.step (.of s2) (g.st.same s2)) ((sm.trans sm1).trans (hide_same s2))⟩
theorem asgT_key {ts : TgL} (h : rdS T Ex fu (.asg (.t ts) e) D σ H) : rdE T Ex false e σ H fun x H1 => rdG T (.t ts) x σ H1 D.nx := by
  obtain ⟨c, N, Oi, B, O, r, env0, q⟩ := h
  unfold evS at q
  obtain ⟨O1, env, hs⟩ := env0.dem (escE false e)
  generalize dem r (escE false e) = r1 at q env
  have sm : Same (hide O H) (hide O1 H) := hide_sub hs
  refine rdB1 env q fun w n v H1 f env1 rb q => ?_
  obtain ⟨r2, hr, q⟩ := opt_wp (M.wp_bind.mp q)
  have q : FinS T c Oi B O H D (.nx, r2) n := q
  exact ⟨c, n, Oi, B, O1, r1, w, r2, env1, rb.plain, hr, fun σ' env2 _ => q O1 H1 σ' env2 (sm.trans (f.hide env.sO' env.lO'))⟩
theorem ret_key (h : rdS T Ex fu (.ret e) D σ H) : rdE T Ex false e σ H D.rt := by
  obtain ⟨c, N, Oi, B, O, r, env0, q⟩ := h
  unfold evS at q
  obtain ⟨O1, env, hs⟩ := env0.dem (escE false e)
  generalize dem r (escE false e) = r1 at q env
  have sm : Same (hide O H) (hide O1 H) := hide_sub hs
  refine rdB1 env q fun w n v H1 f env1 rb q => ?_
  have q : FinS T c Oi B O H D (.rt w, r1) n := q
  exact q O1 H1 σ env1 (sm.trans (f.hide env.sO' env.lO')) v rb.plain
theorem ex_key (h : rdS T Ex fu (.ex e) D σ H) : rdE T Ex false e σ H fun _ H1 => D.nx σ H1 := by
  obtain ⟨c, N, Oi, B, O, r, env0, q⟩ := h
  unfold evS at q
  obtain ⟨O1, env, hs⟩ := env0.dem (escE false e)
  generalize dem r (escE false e) = r1 at q env
  have sm : Same (hide O H) (hide O1 H) := hide_sub hs
  refine rdB1 env q fun w n v H1 f env1 rb q => ?_
  have q : FinS T c Oi B O H D (.nx, r1) n := q
  exact q O1 H1 σ env1 (sm.trans (f.hide env.sO' env.lO'))
theorem ite_key {a b : SL} (h : rdS T Ex fu (.ite e a b) D σ H) : tIfS (rdT T Ex e) (rdSL T Ex fu a) (rdSL T Ex fu b) D σ H := by
  obtain ⟨c, N, Oi, B, O, r, env0, q⟩ := h
  unfold evS at q
  obtain ⟨O1, env, hs⟩ := env0.dem (escE false e)
  generalize dem r (escE false e) = r1 at q env
  have sm : Same (hide O H) (hide O1 H) := hide_sub hs
  refine rdB1T env q fun k n H1 f env1 q => ?_
  have st : Same (hide O H) (hide O1 H1) := sm.trans (f.hide env.sO' env.lO')
  cases k with
  | true =>
    rw [if_pos rfl] at q ⊢
    exact ⟨c, n, Oi, B, O1, r1, env1, M.wp_mono (fun q n h => h.step st) (fun _ _ x => x) q⟩
  | false =>
    rw [if_neg Bool.false_ne_true] at q ⊢
    exact ⟨c, n, Oi, B, O1, r1, env1, M.wp_mono (fun q n h => h.step st) (fun _ _ x => x) q⟩
theorem forM_cons {ρ : Type} {step : W → ρ → M (Fl × ρ)} {w : W} {ws : List W} {r : ρ} : forM step (w :: ws) r = (step w r).bind fun q => match q.1 with
    | .nx => forM step ws q.2
    | .ct => forM step ws q.2
    | .bk => .ret (.nx, q.2)
    | .rt v => .ret (.rt v, q.2) := rfl
theorem for_key {tg : Tg} {it : It} {body : SL} (h : rdS T Ex fu (.forr tg it body) D σ H) : tFor (rdI T Ex it) (rdG T tg) (rdSL T Ex fu body) D σ H := by
  obtain ⟨c, N, Oi, B, O, r, env0, q⟩ := h
  unfold evS at q
  obtain ⟨O1, env, hs⟩ := env0.dem (escI it)
  generalize dem r (escI it) = r1 at q env
  have sm : Same (hide O H) (hide O1 H) := hide_sub hs
  generalize hst : (fun w r1 => (opt (asgT tg w r1)).bind fun r2 => evSL T.fs T.gs fu body r2) = step at q
  refine ⟨c, N, Oi, B, O1, r1, env, M.wp_mono (fun ws n q J H1 f s j => ?_) (fun x n h => h.wider env.fr env.sub) (M.wp_bind.mp q)⟩
  have env1 := env.step f s
  have sm1 : Same (hide O H) (hide O1 H1) := sm.trans (f.hide env.sO' env.lO')
  refine ⟨fun i m σ2 H2 => ∃ N2 O2 r2, i ≤ ws.length ∧ m = ws.length - i ∧ EOk T c N2 Oi B O2 H2 σ2 r2 ∧ Same (hide O1 H1) (hide O2 H2) ∧ (forM step (ws.drop i) r2).wp N2 (FinS T c Oi B O H D) (EX T Ex c Oi B),
    ⟨ws.length, n, O1, r1, Nat.zero_le _, rfl, env1, Same.refl _, by rw [List.drop_zero]; exact q⟩, fun i m σ2 H2 ⟨N2, O2, r2, hi, hm, env2, s2, q2⟩ => ?_⟩
  by_cases hlt : i < ws.length
  · refine .inr ⟨j.go i O2 H2 s2 hlt, _, fun σ' H' h => h, fun x H3 hy => ?_⟩
    obtain ⟨w, hw, s3, rw3⟩ := j.yl i O2 H2 x H3 hlt s2 env2.trk hy
    have env3 := env2.step (.of s3) (env2.st.same s3)
    have hdrop : ws.drop i = w :: ws.drop (i + 1) := by
      rw [List.drop_eq_getElem_cons hlt]
      congr 1
      exact Option.some.inj ((List.getElem?_eq_getElem hlt).symm.trans hw)
    rw [hdrop, forM_cons] at q2
    have q2 := M.wp_bind.mp q2
    rw [← hst] at q2
    obtain ⟨r3, hr, q3⟩ := opt_wp (M.wp_bind.mp q2)
    rw [hst] at q3
    have s23 : Same (hide O1 H1) (hide O2 H3) := s2.trans (hide_same s3)
    refine ⟨c, N2, Oi, B, O2, r2, w, r3, env3, rw3, hr, fun σ3 env4 _ => ⟨c, N2, Oi, B, O2, r3, env4, M.wp_mono (fun qq n4 q4 => ?_) (fun _ _ x => x) q3⟩⟩
    obtain ⟨fl, r5⟩ := qq
    intro O5 H5 σ5 env5 s5
    have s15 : Same (hide O1 H1) (hide O5 H5) := s23.trans s5
    cases fl with
    | nx => exact ⟨ws.length - (i + 1), by omega, n4, O5, r5, hlt, rfl, env5, s15, q4⟩
    | ct => exact ⟨ws.length - (i + 1), by omega, n4, O5, r5, hlt, rfl, env5, s15, q4⟩
    | bk =>
      have q4 : FinS T c Oi B O H D (.nx, r5) n4 := q4
      exact q4 O5 H5 σ5 env5 (sm1.trans s15)
    | rt v =>
      have q4 : FinS T c Oi B O H D (.rt v, r5) n4 := q4
      exact q4 O5 H5 σ5 env5 (sm1.trans s15)
  · have hi' : ws.length = i := by omega
    refine .inl ⟨j.st i O2 H2 s2 hi', ?_⟩
    rw [← hi', List.drop_length] at q2
    have q2 : FinS T c Oi B O H D (.nx, r2) N2 := q2
    exact q2 O2 H2 σ2 env2 (sm1.trans s2)
theorem whl_key {body : SL} (h : rdS T Ex fu (.whl e body) D σ H) : tWhile (rdT T Ex e) (rdSL T Ex fu body) D σ H := by
  obtain ⟨c, N, Oi, B, O, r, env, q⟩ := h
  unfold evS at q
  refine ⟨fun m σ2 H2 => ∃ N2 O2 r2, EOk T c N2 Oi B O2 H2 σ2 r2 ∧ Same (hide O H) (hide O2 H2) ∧
    (whileM (fun r1 => if (escE false e).all (fun i => (ownAt r1 i).isNone) = true then (evE T.fs T.gs r1 false e).bind (fun x => opt (wBool x)) else .stuck) (fun r1 => evSL T.fs T.gs fu body r1) m r2).wp N2 (FinS T c Oi B O H D) (EX T Ex c Oi B),
    ⟨fu, N, O, r, env, Same.refl _, q⟩, fun m σ2 H2 ⟨N2, O2, r2, env2, s2, q2⟩ => ?_⟩
  cases m with
  | zero => exact q2.elim
  | succ m =>
    unfold whileM at q2
    have q2 := M.wp_bind.mp q2
    split at q2
    · refine ⟨c, N2, Oi, B, O2, r2, env2, M.wp_mono (fun b n3 q3 H3 f3 st3 => ?_) (fun x n h => h.wider env2.fr env2.sub) q2⟩
      have env3 := env2.step f3 st3
      have s3 : Same (hide O H) (hide O2 H3) := s2.trans (f3.hide env2.sO' env2.lO')
      cases b with
      | false =>
        rw [if_neg Bool.false_ne_true] at q3
        dsimp only
        rw [if_neg Bool.false_ne_true]
        have q3 : FinS T c Oi B O H D (.nx, r2) n3 := q3
        exact q3 O2 H3 σ2 env3 s3
      | true =>
        rw [if_pos rfl] at q3
        dsimp only
        rw [if_pos rfl]
        refine ⟨_, fun σ' H' h => h, c, n3, Oi, B, O2, r2, env3, M.wp_mono (fun qq n4 q4 => ?_) (fun _ _ x => x) (M.wp_bind.mp q3)⟩
        obtain ⟨fl, r5⟩ := qq
        intro O5 H5 σ5 env5 s5
        have s15 : Same (hide O H) (hide O5 H5) := s3.trans s5
        cases fl with
        | nx => exact ⟨m, by omega, n4, O5, r5, env5, s15, q4⟩
        | ct => exact ⟨m, by omega, n4, O5, r5, env5, s15, q4⟩
        | bk =>
          have q4 : FinS T c Oi B O H D (.nx, r5) n4 := q4
          exact q4 O5 H5 σ5 env5 s15
        | rt v =>
          have q4 : FinS T c Oi B O H D (.rt v, r5) n4 := q4
          exact q4 O5 H5 σ5 env5 s15
    · exact q2.elim
end
end DS

set_option Elab.async false
set_option linter.all false
set_option autoImplicit false
set_option maxRecDepth 100000
set_option maxHeartbeats 4000000
/-! DS21: all statements. -/
namespace DS
open PySem PySem.Spec PySem.SeqAt PyProof.Rows L2
section
variable {T : Stc} {Ex : XK} {X : Cx} {kw : List (Nat × Nat × List Str × List Nat)} {Nm : List Str} {sc : Scope} {Fn : Str → Bool} {ct : Ct} {e : E} {es : EL} {p : Expr} {ps : List Expr} {c : StA} {O O1 Oi : List Addr} {H H1 B : Hp} {N n fu i : Nat} {σ : L2.St} {r : Env} {D : Ends} {pos : Pos} {w : W}
theorem ownAt_some (h : ownAt r i = some w) : r[i]? = some (.ow w) := by
  unfold ownAt at h
  split at h
  · cases h; assumption
  · cases h
theorem ownL_some {ds : List PyData} (h : ownL r i = some ds) : r[i]? = some (.ow (.d (.list ds))) := by
  unfold ownL at h
  split at h
  · cases h; assumption
  · cases h
theorem own_list {ds : List PyData} {a : Addr} {G : Hp} (o : Own T.K T.fa c G H a (.d (.list ds))) : ∃ xs, H a = some (.lst xs) ∧ RDs T.K G xs ds := by
  cases o with | lst h1 h2 => exact ⟨_, h1, h2⟩
/-- an own list in hand -/
theorem own_get {ds : List PyData} (env : EOk T c n Oi B O H σ r) (h : r[i]? = some (.ow (.d (.list ds)))) : ∃ a xs, σ[i]? = some (some (.ref a)) ∧ a ∈ O ∧ H a = some (.lst xs) ∧ RDs T.K (hide O H) xs ds := by
  obtain ⟨a, g1, g2, g3, g4, g5⟩ := env.ow i _ h
  obtain ⟨xs, h1, h2⟩ := own_list g5
  exact ⟨a, xs, g1, g2, h1, h2⟩
theorem upd_nx {a : Addr} {w w2 : W} {o : HO} (env : EOk T c n Oi B O H1 σ r) (hr : r[i]? = some (.ow w)) (hs : σ[i]? = some (some (.ref a))) (ha : a ∈ O) (hw : Own T.K T.fa c (hide O H1) (upd H1 a o) a w2) (sm : Same (hide O1 H) (hide O H1))
    (q : FinS T c Oi B O1 H D (.nx, r.set i (.ow w2)) n) : D.nx σ (upd H1 a o) :=
  q O _ σ (env.updOwn hr hs hw) (by rw [hide_upd ha]; exact sm)
/-- name.append(e), name.extend(e) -/
theorem app_key (h : rdS T Ex fu (.app i e) D σ H) : tDrop (tBM X.K "list" rAppend (tVar i) (tCons (rdE T Ex false e) tNil)) D σ H := by
  obtain ⟨c, N, Oi, B, O, r, env0, q⟩ := h
  unfold evS at q
  obtain ⟨O1, env, hs⟩ := env0.dem (escE false e)
  generalize dem r (escE false e) = r1 at q env
  have sm : Same (hide O H) (hide O1 H) := hide_sub hs
  split at q
  · rename_i ds hw
    have hr := ownL_some hw
    obtain ⟨a, xs, g1, g2, g3, g4⟩ := own_get env hr
    refine ⟨.ref a, g1, .inl ⟨rfl, xs, .inl (.inl g3)⟩, ?_⟩
    refine rdB1 env q fun x n v H1 f env1 rb q => ?_
    obtain ⟨w2, hw2, q⟩ := opt_wp (M.wp_bind.mp q)
    have q : FinS T c Oi B O H D (.nx, r1.set i (.ow w2)) n := q
    obtain ⟨a', ys, k1, k2, k3, k4⟩ := own_get env1 hr
    rw [g1] at k1
    cases k1
    unfold appD at hw2
    split at hw2
    · obtain ⟨hl, rfl⟩ := if_some hw2
      refine ⟨a, ys, v, rfl, rfl, k3, by rw [k4.len]; exact Nat.lt_of_lt_of_le hl cap_le, ?_⟩
      exact upd_nx env1 hr g1 k2 (.lst upd_same (k4.append (.cons rb.plain.data .nil))) (sm.trans (f.hide env.sO' env.lO')) q
    · cases hw2
  · exact q.elim
theorem ext_key (h : rdS T Ex fu (.ext i e) D σ H) : tDrop (tBM X.K "list" rExtend (tVar i) (tCons (rdE T Ex false e) tNil)) D σ H := by
  obtain ⟨c, N, Oi, B, O, r, env0, q⟩ := h
  unfold evS at q
  obtain ⟨O1, env, hs⟩ := env0.dem (escE false e)
  generalize dem r (escE false e) = r1 at q env
  have sm : Same (hide O H) (hide O1 H) := hide_sub hs
  split at q
  · rename_i ds hw
    have hr := ownL_some hw
    obtain ⟨a, xs, g1, g2, g3, g4⟩ := own_get env hr
    refine ⟨.ref a, g1, .inl ⟨rfl, xs, .inl (.inl g3)⟩, ?_⟩
    refine rdB1 env q fun x n v H1 f env1 rb q => ?_
    obtain ⟨w2, hw2, q⟩ := opt_wp (M.wp_bind.mp q)
    have q : FinS T c Oi B O H D (.nx, r1.set i (.ow w2)) n := q
    obtain ⟨a', ys, k1, k2, k3, k4⟩ := own_get env1 hr
    rw [g1] at k1
    cases k1
    unfold extD at hw2
    split at hw2
    · obtain ⟨hl, rfl⟩ := if_some hw2
      obtain ⟨b, zs, rfl, m1, m2⟩ := rw_lst rb.plain
      refine ⟨a, b, ys, zs, rfl, rfl, k3, hide_le _ _ m1, by rw [k4.len, m2.len]; exact Nat.le_trans hl cap_le, ?_⟩
      exact upd_nx env1 hr g1 k2 (.lst upd_same (k4.append m2)) (sm.trans (f.hide env.sO' env.lO')) q
    · cases hw2
  · exact q.elim
theorem RDs.last {K : Frag} {G : Hp} {xs : List V} {ds : List PyData} {x : PyData} (h : RDs K G xs ds) (e : ds.getLast? = some x) : ∃ y, xs[xs.length - 1]? = some y ∧ RD K G y x := by
  rw [List.getLast?_eq_getElem?] at e
  rw [h.len]
  exact h.get e
theorem RDs.dropLast {K : Frag} {G : Hp} {xs : List V} {ds : List PyData} (h : RDs K G xs ds) : RDs K G xs.dropLast ds.dropLast := by
  rw [List.dropLast_eq_take, List.dropLast_eq_take, h.len]
  exact h.take _
theorem pop_key {j : Nat} (h : rdS T Ex fu (.popTo j i) D σ H) : tAsg (tBM0 X.K "list" rPop (tVar i)) (gName j) D σ H := by
  obtain ⟨c, N, Oi, B, O, r, env, q⟩ := h
  unfold evS at q
  split at q
  · rename_i ds hw
    have hr := ownL_some hw
    obtain ⟨a, xs, g1, g2, g3, g4⟩ := own_get env hr
    split at q
    · rename_i x hx
      split at q
      · rename_i hj
        have q : FinS T c Oi B O H D (.nx, (r.set i (.ow (.d (.list ds.dropLast)))).set j (.sh (.d x))) N := q
        obtain ⟨y, hy, ry⟩ := g4.last hx
        refine ⟨.ref a, g1, .inl ⟨rfl, xs, .inl (.inl g3)⟩, a, xs, y, rfl, rfl, g3, hy, ?_⟩
        have env1 := env.updOwn hr g1 (w' := .d (.list ds.dropLast)) (o := .lst xs.dropLast) (.lst upd_same g4.dropLast)
        have env2 := env1.set (i := j) (v := y) (w := .d x) (by rw [List.length_set]; exact hj) (.d (by rw [hide_upd g2]; exact ry))
        exact q O _ _ env2 (by rw [hide_upd g2]; exact Same.refl _)
      · exact q.elim
    · exact q.elim
  · exact q.elim
/-- name[k] = e -/
theorem RK.put {K : Frag} {fa : Nat → Addr} {G : Hp} {k : Key} {v : V} {w : W} (hv : RW K fa c G v w) {kvs : List (Key × V)} {ws : List (Key × W)} (h : RK K fa c G kvs ws) : RK K fa c G (putK kvs k v) (putV k w ws) := by
  have hany : ∀ {kvs : List (Key × V)} {ws : List (Key × W)}, RK K fa c G kvs ws → (kvs.any fun kv => decide (kv.1 = k)) = (ws.any fun p => decide (p.1 = k)) := by
    intro kvs ws h
    induction kvs generalizing ws with
    | nil => cases h; rfl
    | cons p kvs ih => cases h with
      | cons a t => rw [List.any_cons, List.any_cons, ih t]
  have hmap : ∀ {kvs : List (Key × V)} {ws : List (Key × W)}, RK K fa c G kvs ws → RK K fa c G (kvs.map fun kv => if kv.1 = k then (kv.1, v) else kv) (ws.map fun p => if p.1 = k then (p.1, w) else p) := by
    intro kvs ws h
    induction kvs generalizing ws with
    | nil => cases h; exact .nil
    | cons p kvs ih => cases h with
      | cons a t =>
        rename_i k' v' w' s
        rw [List.map_cons, List.map_cons]
        by_cases q : k' = k
        · rw [if_pos (show (k', v').1 = k from q), if_pos (show (k', w').1 = k from q)]
          exact .cons hv (ih t)
        · rw [if_neg (show ¬ (k', v').1 = k from q), if_neg (show ¬ (k', w').1 = k from q)]
          exact .cons a (ih t)
  have happ : ∀ {kvs : List (Key × V)} {ws : List (Key × W)}, RK K fa c G kvs ws → RK K fa c G (kvs ++ [(k, v)]) (ws ++ [(k, w)]) := by
    intro kvs ws h
    induction kvs generalizing ws with
    | nil => cases h; exact .cons hv .nil
    | cons p kvs ih => cases h with
      | cons a t => exact .cons a (ih t)
  unfold putK putV
  rw [hany h]
  split
  · exact hmap h
  · exact happ h
theorem put_key {k : E} (h : rdS T Ex fu (.put i k e) D σ H) : tAsg (rdE T Ex false e) (gSub (tVar i) (rdE T Ex false k) rSetL) D σ H ∨ sDPut (tVar i) (rdE T Ex false k) (rdE T Ex false e) D σ H := by
  obtain ⟨c, N, Oi, B, O, r, env0, q⟩ := h
  unfold evS at q
  obtain ⟨O1, env, hs⟩ := env0.dem (escE false k ++ escE false e)
  generalize dem r (escE false k ++ escE false e) = r1 at q env
  have sm : Same (hide O H) (hide O1 H) := hide_sub hs
  by_cases hcase : ∃ ds, r1[i]? = some (.ow (.d (.list ds)))
  · refine .inl ?_
    obtain ⟨ds, hr⟩ := hcase
    refine rdB1 env q fun x n v H1 f env1 rb q => ?_
    have hoa : ownAt r1 i = some (.d (.list ds)) := by unfold ownAt; rw [hr]
    rw [hoa] at q
    obtain ⟨a, xs, g1, g2, g3, g4⟩ := own_get env1 hr
    refine ⟨.ref a, g1, ?_⟩
    refine rdB1 env1 q fun y n2 v2 H2 f2 env2 rb2 q => ?_
    obtain ⟨w2, hw2, q⟩ := opt_wp (M.wp_bind.mp q)
    have q : FinS T c Oi B O H D (.nx, r1.set i (.ow w2)) n2 := q
    obtain ⟨a', ys, k1, k2, k3, k4⟩ := own_get env2 hr
    rw [g1] at k1
    cases k1
    have rb1 := rb.step f2 env1.sO' env1.lO' env1.trk
    unfold putW at hw2
    dsimp only at hw2
    split at hw2
    · rename_i kk yy hyy
      split at hw2
      · rename_i j hj
        cases hw2
        refine ⟨a, ys, kk, j, rfl, rb2.int, k3, by rw [k4.len]; exact hj, ?_⟩
        exact upd_nx env2 hr g1 k2 (.lst upd_same (k4.set rb1.plain.data j)) ((sm.trans (f.hide env.sO' env.lO')).trans (f2.hide env.sO' env.lO')) q
      · cases hw2
    · cases hw2
  · refine .inr ?_
    refine rdB1 env q fun x n v H1 f env1 rb q => ?_
    split at q
    · rename_i w hw
      have hr := ownAt_some hw
      obtain ⟨a, g1, g2, g3, g4, g5⟩ := env1.ow i w hr
      refine ⟨.ref a, g1, ?_⟩
      refine rdB1 env1 q fun y n2 v2 H2 f2 env2 rb2 q => ?_
      obtain ⟨w2, hw2, q⟩ := opt_wp (M.wp_bind.mp q)
      have q : FinS T c Oi B O H D (.nx, r1.set i (.ow w2)) n2 := q
      have rb1 := rb.step f2 env1.sO' env1.lO' env1.trk
      obtain ⟨a', k1, k2, k3, k4, k5⟩ := env2.ow i w hr
      rw [g1] at k1
      cases k1
      unfold putW at hw2
      split at hw2
      · exact absurd ⟨_, hr⟩ hcase
      · rename_i kvs
        split at hw2
        · rename_i key hkey
          obtain ⟨hl, rfl⟩ := if_some hw2
          cases k5 with
          | dK m1 m2 =>
            refine ⟨a, _, rfl, ?_, upd_nx env2 hr g1 k2 (.dK upd_same (m2.put (k := key) rb1.plain)) ((sm.trans (f.hide env.sO' env.lO')).trans (f2.hide env.sO' env.lO')) q⟩
            rw [keyW_rel hkey rb2]
            exact DPut.k m1 (by rw [m2.len]; exact Nat.lt_of_lt_of_le hl cap_le)
        · cases hw2
      · cases hw2
    · exact q.elim
end
end DS

set_option Elab.async false
set_option linter.all false
set_option autoImplicit false
set_option maxRecDepth 100000
set_option maxHeartbeats 8000000
/-! DS22: every statement that is checked is what the small language says. -/
namespace DS
open PySem PySem.Spec PySem.SeqAt PyProof.Rows L2
section
variable {T : Stc} {ct : Ct} {sc : Scope} {Fn : Str → Bool} {Ex : XK} {X : Cx}
theorem sLo (tk : TOk T ct.kw) (hf : ct.fn = T.fn) (hgn : ct.gn = T.gn) (xo : XOk T ct.N sc Fn Ex X) : ∀ (es : EL) (ps : List Expr), chkL ct sc es ps = true → PA X ps (rdLo T Ex es)
  | .nil, ps, h => by
    unfold chkL at h
    split at h
    · exact lo_nil
    · cases h
  | .cons e es, ps, h => by
    unfold chkL at h
    split at h
    · simp only [Bool.and_eq_true] at h
      exact lo_cons (sX tk hf hgn e sc Fn Ex X _ xo h.1) (sLo tk hf hgn xo es _ h.2) (chk_star h.1)
    · cases h
theorem Itms.len {c : StA} {Oi O : List Addr} {B H : Hp} {es : EL} {vs : List V} {ws : List W} {as : List Addr} (h : Itms T c Oi O B H es vs ws as) : vs.length = ws.length := by
  induction h with
  | nil => rfl
  | sh _ _ _ ih => exact congrArg (· + 1) ih
  | ow _ _ _ _ _ _ ih => exact congrArg (· + 1) ih
/-- one name -/
theorem s_tg1 (xo : XOk T ct.N sc Fn Ex X) {i : Nat} {pe : Expr} (h : chkTg ct sc Fn (.n i) pe = true) : PG X pe (gName i) := by
  unfold chkTg at h
  split at h
  · rename_i x p
    simp only [Bool.and_eq_true, decide_eq_true_eq] at h
    obtain ⟨h3, h4⟩ := locB_ok h.2
    exact pg_name (by rw [xo.hN]; exact xo.nd) (by rw [xo.hN]; exact h.1) (by rw [xo.hsc]; exact h3) (by rw [xo.hfn, xo.hsc]; exact h4)
  · cases h
/-- plain names one after another -/
theorem n_tgs (xo : XOk T ct.N sc Fn Ex X) : ∀ (is : List Nat) (ps : List Expr), chkTgs ct sc Fn (parTg is) ps = true → PGs X ps (fun vs σ H Q => vs.length = is.length ∧ Q (setAll σ is vs) H)
  | [], ps, h => by
    cases ps with
    | cons _ _ => simp [parTg, chkTgs] at h
    | nil =>
      refine PGs.weak pgs_nil fun vs σ H Q ⟨hl, q⟩ => ?_
      cases vs with
      | nil => exact ⟨rfl, q⟩
      | cons _ _ => cases hl
  | i :: is, ps, h => by
    cases ps with
    | nil => simp [parTg, chkTgs] at h
    | cons p ps =>
      unfold parTg chkTgs at h
      simp only [Bool.and_eq_true] at h
      have h1 := h.1
      unfold chkTg at h1
      split at h1
      · rename_i x pp
        simp only [Bool.and_eq_true, decide_eq_true_eq] at h1
        obtain ⟨h3, h4⟩ := locB_ok h1.2
        refine PGs.weak (pgs_cons (pg_name (by rw [xo.hN]; exact xo.nd) (by rw [xo.hN]; exact h1.1) (by rw [xo.hsc]; exact h3) (by rw [xo.hfn, xo.hsc]; exact h4)) (n_tgs xo is ps h.2) rfl) fun vs σ H Q ⟨hl, q⟩ => ?_
        cases vs with
        | nil => cases hl
        | cons v vs => exact ⟨v, vs, rfl, by simpa using hl, q⟩
      · cases h1
theorem as_len2 {ts : List Expr} {is : List Nat} (h : chkTgs ct sc Fn (parTg is) ts = true) : ts.length = is.length := by
  induction is generalizing ts with
  | nil => cases ts with
    | nil => rfl
    | cons _ _ => simp [parTg, chkTgs] at h
  | cons i is ih => cases ts with
    | nil => simp [parTg, chkTgs] at h
    | cons t ts =>
      unfold parTg chkTgs at h
      simp only [Bool.and_eq_true] at h
      rw [List.length_cons, List.length_cons, ih h.2]
theorem st_few {pe : Expr} {cpos : Pos} {env : PySem.Env} (hs : star pe = false) : ((backTo cpos (starEach [pe] env)).all (fun x => !x.1) && (backToKw cpos (keywordEach [] env)).all (fun x => x.1.isSome)
      && decide ([pe].length + ([] : List Keyword).length + (if ([] : List Keyword).isEmpty then 0 else 1) < 30)) = true := by
  rw [star_each hs]; rfl
mutual
theorem sS (tk : TOk T ct.kw) (hf : ct.fn = T.fn) (hgn : ct.gn = T.gn) (fu : Nat) (xs : XSt T ct.N sc Fn Ex X) : ∀ (s : S) (st : Stmt), chkS ct sc Fn s st = true → PS X st (rdS T Ex fu s)
  | .asg tg e, st, h => by
    unfold chkS at h
    split at h
    · rename_i ptg pe pos
      simp only [Bool.and_eq_true, Bool.or_eq_true, Bool.not_eq_true'] at h
      obtain ⟨⟨⟨h1, h2⟩, h3⟩, h4⟩ := h
      have hk : X.env.scope.kind = .function := by rw [xs.xo.hsc]; exact xs.kind
      cases tg with
      | n i =>
        rcases h4 with h4 | h4
        · refine PS.weak (ps_asg (sX tk hf hgn e sc Fn Ex X pe xs.xo h1) (s_tg1 xs.xo h2) (swNo_ok hk (by rw [xs.xo.hsc]; exact h4)) (sw_none h3) (by rw [as_star (chkTg_star h2)]; rfl)) fun D σ H q => asg_key q
        · unfold chkTg at h2
          split at h2
          · rename_i x px
            simp only [Bool.and_eq_true, decide_eq_true_eq] at h2
            unfold lcB at h4
            dsimp only at h4
            split at h4
            · rename_i pelt gens scope p2
              simp only [Bool.and_eq_true, decide_eq_true_eq, Bool.not_eq_true'] at h4
              cases e with
              | comp tg it cs elt =>
                unfold chkE at h1
                split at h1
                · rename_i heq
                  cases heq
                  simp only [Bool.and_eq_true, decide_eq_true_eq] at h1
                  obtain ⟨⟨⟨⟨⟨⟨g1, g2⟩, g3⟩, g4⟩, g5⟩, g6⟩, g7⟩ := h1
                  subst g1
                  refine PS.weak (st_setLc xs.xo h2.1 h4.1.1 xs.kind h4.1.2 h4.2 (sIc xs.xo g2 (sI tk hf hgn it sc Fn Ex X _ _ xs.xo g2)) (chkI_set g2) g7 g3 (fun X' xo' => compC tk hf hgn g4 g5 X' xo') fun X' xo' => sE tk hf hgn elt _ _ _ X' _ xo' g6) fun D σ H q => ?_
                  obtain ⟨c, N, Oi, B, O, r, env, q⟩ := asg_key q
                  exact ⟨c, N, Oi, B, O, r, env, M.wp_mono (fun w n k v H' f s rf => k v H' f s ⟨rf.1, fun z => rf.2 (by simp only [Bool.and_eq_true] at z; exact z.2)⟩) (fun _ _ x => x) q⟩
                · cases h1
              | _ => simp [chkE] at h1
            · cases h4
          · cases h2
      | t ts =>
        have h4 : swNo sc pe (some ptg) = true := by
          rcases h4 with h4 | h4
          · exact h4
          · cases ptg <;> simp [chkTg, lcB] at h2 h4
        exact PS.weak (ps_asg (sE tk hf hgn e sc Fn Ex X pe xs.xo h1).pf (s_tg xs.xo (.t ts) ptg h2) (swNo_ok hk (by rw [xs.xo.hsc]; exact h4)) (sw_none h3) (by rw [as_star (chkTg_star h2)]; rfl)) fun D σ H q => asgT_key q
    · cases h
  | .par is es, st, h => by
    unfold chkS at h
    split at h
    · rename_i pts kt pt pvs k2 pt2 pos
      simp only [Bool.and_eq_true, Bool.or_eq_true, decide_eq_true_eq] at h
      obtain ⟨⟨⟨h1, h2⟩, h3⟩, h4⟩ := h
      have hk : X.env.scope.kind = .function := by rw [xs.xo.hsc]; exact xs.kind
      have hlo := sLo tk hf hgn xs.xo es pvs h1
      rcases h4 with h4 | h4
      · unfold swB at h4
        split at h4
        · rename_i x px y py
          split at h4
          · rename_i a b
            have hlen := as_len2 h2
            match is, hlen with
            | [i, j], _ =>
              unfold parTg chkTgs at h2
              simp only [Bool.and_eq_true] at h2
              obtain ⟨g1, g2⟩ := h2
              unfold parTg chkTgs at g2
              simp only [Bool.and_eq_true] at g2
              unfold chkTg at g1
              have g2 := g2.1
              unfold chkTg at g2
              simp only [Bool.and_eq_true, decide_eq_true_eq] at g1 g2
              have hsw := sw2_ok (env := X.env) (x := x) (y := y) (px := px) (py := py) (pt := pt) (pt2 := pt2) (kt := kt) (k2 := k2) (a := a) (b := b) hk (by rw [xs.xo.hsc]; exact h4)
              unfold sw2 at h4
              simp only [Bool.and_eq_true, Bool.not_eq_true', beq_iff_eq] at h4
              obtain ⟨⟨⟨⟨⟨⟨⟨m1, m2⟩, m3⟩, m4⟩, m5⟩, m6⟩, m7⟩, m8⟩ := h4
              have hij : i ≠ j := fun z => by
                subst z
                rw [g1.1] at g2
                have := Option.some.inj g2.1
                rw [this] at m4
                simp at m4
              refine PS.weak (ps_par xs.xo.calm (by rw [xs.xo.hN]; exact xs.xo.nd) (by rw [xs.xo.hN]; exact g1.1) (by rw [xs.xo.hN]; exact g2.1) hij (by rw [xs.xo.hsc]; exact m1) (by rw [xs.xo.hsc]; exact m2) hlo hsw rfl) fun D σ H q => ?_
              obtain ⟨c, N, Oi, B, O, r, env, q⟩ := par_key q
              refine ⟨c, N, Oi, B, O, r, env, M.wp_mono (fun ws n q vs O' H' as f1 f2 f3 f4 f5 f6 f7 => ?_) (fun _ _ x => x) q⟩
              obtain ⟨hl, q⟩ := q vs O' H' as f1 f2 f3 f4 f5 f6 f7
              match vs, hl with
              | [v, w], _ => exact ⟨v, w, rfl, q H' (Same.refl _)⟩
          · cases h4
        · rename_i x px y py z pz
          split at h4
          · rename_i a b d
            have hlen := as_len2 h2
            match is, hlen with
            | [i, j, l], _ =>
              unfold parTg chkTgs at h2
              simp only [Bool.and_eq_true] at h2
              obtain ⟨g1, g2⟩ := h2
              unfold parTg chkTgs at g2
              simp only [Bool.and_eq_true] at g2
              obtain ⟨g2, g3⟩ := g2
              unfold parTg chkTgs at g3
              simp only [Bool.and_eq_true] at g3
              have g3 := g3.1
              unfold chkTg at g1 g2 g3
              simp only [Bool.and_eq_true, decide_eq_true_eq] at g1 g2 g3
              have hsw := sw3_ok (env := X.env) (x := x) (y := y) (z := z) (px := px) (py := py) (pz := pz) (pt := pt) (pt2 := pt2) (kt := kt) (k2 := k2) (a := a) (b := b) (c := d) hk (by rw [xs.xo.hsc]; exact h4)
              unfold sw3 at h4
              simp only [Bool.and_eq_true, Bool.not_eq_true', beq_iff_eq] at h4
              obtain ⟨⟨⟨⟨⟨⟨⟨⟨⟨⟨⟨⟨m1, m2⟩, m3⟩, m4⟩, m5⟩, m6⟩, m7⟩, m8⟩, m9⟩, m10⟩, m11⟩, m12⟩, m13⟩ := h4
              have ne : ∀ {i j : Nat} {x y : Str}, ct.N[i]? = some x → ct.N[j]? = some y → (x == y) = false → i ≠ j := fun {i j x y} h1 h2 h3 z => by
                subst z
                rw [h1] at h2
                have := Option.some.inj h2
                rw [this] at h3
                simp at h3
              refine PS.weak (ps_par3 xs.xo.calm (by rw [xs.xo.hN]; exact xs.xo.nd) (by rw [xs.xo.hN]; exact g1.1) (by rw [xs.xo.hN]; exact g2.1) (by rw [xs.xo.hN]; exact g3.1) (ne g1.1 g2.1 m6) (ne g1.1 g3.1 m7) (ne g2.1 g3.1 m8)
                (by rw [xs.xo.hsc]; exact m1) (by rw [xs.xo.hsc]; exact m2) (by rw [xs.xo.hsc]; exact m3) hlo hsw rfl) fun D σ H q => ?_
              obtain ⟨c, N, Oi, B, O, r, env, q⟩ := par_key q
              refine ⟨c, N, Oi, B, O, r, env, M.wp_mono (fun ws n q vs O' H' as f1 f2 f3 f4 f5 f6 f7 => ?_) (fun _ _ x => x) q⟩
              obtain ⟨hl, q⟩ := q vs O' H' as f1 f2 f3 f4 f5 f6 f7
              match vs, hl with
              | [u, v, w], _ => exact ⟨u, v, w, rfl, q H' (Same.refl _)⟩
          · cases h4
        · cases h4
      · have hst := chkTgs_star h2
        obtain ⟨l1, l2⟩ := as_len (env := X.env) hst
        refine PS.weak (ps_asg (pe_tup hlo) (pg_tup (n := pts.length) xs.xo.calm (n_tgs xs.xo is pts h2) l1 l2) rfl (swT_ok (by rw [xs.xo.hsc]; exact h4)) rfl) fun D σ H q => ?_
        obtain ⟨c, N, Oi, B, O, r, env, q⟩ := par_key q
        refine ⟨c, N, Oi, B, O, r, env, M.wp_mono (fun ws n q vs O' H' as f1 f2 f3 f4 f5 f6 f7 => ?_) (fun _ _ x => x) (evL_len q)⟩
        obtain ⟨hws, q⟩ := q
        obtain ⟨hl, q⟩ := q vs O' H' as f1 f2 f3 f4 f5 f6 f7
        have hvs : vs.length = ws.length := f5.len
        refine ⟨by rw [sizeLine_eq]; omega, fun p hp => ?_⟩
        refine ⟨p, vs, rfl, .inl (.inl upd_same), by rw [hl, as_len2 h2], hl, q _ (same_new hp)⟩
    · cases h
  | .ret e, st, h => by
    unfold chkS at h
    split at h
    · exact PS.weak (ps_ret (sE tk hf hgn e sc Fn Ex X _ xs.xo h).pf) fun D σ H q => ret_key q
    · cases h
  | .retN, st, h => by
    unfold chkS at h
    split at h
    · refine PS.weak ps_retN fun D σ H ⟨c, N, Oi, B, O, r, env, q⟩ => ?_
      have q : FinS T c Oi B O H D (.rt (.d .none), r) N := q
      exact q O H σ env (Same.refl _) .non (.d .non)
    · cases h
  | .ite c a b, st, h => by
    unfold chkS at h
    split at h
    · simp only [Bool.and_eq_true] at h
      exact PS.weak (ps_if (sE tk hf hgn c sc Fn Ex X _ xs.xo h.1.1).ts (sSL tk hf hgn fu xs a _ h.1.2) (sSL tk hf hgn fu xs b _ h.2)) fun D σ H q => ite_key q
    · cases h
  | .forr tg it body, st, h => by
    unfold chkS at h
    split at h
    · simp only [Bool.and_eq_true] at h
      exact PS.weak (ps_for xs.po xs.xo.calm (sI tk hf hgn it sc Fn Ex X _ _ xs.xo h.1.2) (s_tg xs.xo tg _ h.1.1) (sSL tk hf hgn fu xs body _ h.2) (folded_ok (chkI_set h.1.2))) fun D σ H q => for_key q
    · cases h
  | .whl c body, st, h => by
    unfold chkS at h
    split at h
    · simp only [Bool.and_eq_true] at h
      exact PS.weak (ps_while xs.po (sE tk hf hgn c sc Fn Ex X _ xs.xo h.1).ts (sSL tk hf hgn fu xs body _ h.2)) fun D σ H q => whl_key q
    · cases h
  | .app i e, st, h => by
    unfold chkS at h
    split at h
    · simp only [Bool.and_eq_true, decide_eq_true_eq] at h
      obtain ⟨⟨⟨h1, h2⟩, h3⟩, h4⟩ := h
      subst h2
      obtain ⟨g1, g2, g3, g4⟩ := nameB_ok xs.xo h1
      exact PS.weak (ps_expr (pe_bm PySem.F.plainAttrs_list PySem.F.slot_list_append PySem.F.type_list_append mt_append (pe_var g1 g2 g3 g4) (pa_cons (sE tk hf hgn e sc Fn Ex X _ xs.xo h3).pf pa_nil (star_each (chk_star h3))) rfl (st_few (chk_star h3)) h4 (star_each (chk_star h3)) rfl) rfl) fun D σ H q => app_key q
    · cases h
  | .ext i e, st, h => by
    unfold chkS at h
    split at h
    · simp only [Bool.and_eq_true, decide_eq_true_eq] at h
      obtain ⟨⟨⟨h1, h2⟩, h3⟩, h4⟩ := h
      subst h2
      obtain ⟨g1, g2, g3, g4⟩ := nameB_ok xs.xo h1
      exact PS.weak (ps_expr (pe_bm PySem.F.plainAttrs_list PySem.F.slot_list_extend PySem.F.type_list_extend mt_extend (pe_var g1 g2 g3 g4) (pa_cons (sE tk hf hgn e sc Fn Ex X _ xs.xo h3).pf pa_nil (star_each (chk_star h3))) rfl (st_few (chk_star h3)) h4 (star_each (chk_star h3)) rfl) rfl) fun D σ H q => ext_key q
    · cases h
  | .popTo j i, st, h => by
    unfold chkS at h
    split at h
    · simp only [Bool.and_eq_true, decide_eq_true_eq] at h
      obtain ⟨⟨⟨h1, h2⟩, h3⟩, h4⟩ := h
      subst h2
      obtain ⟨g1, g2, g3, g4⟩ := nameB_ok xs.xo h1
      exact PS.weak (ps_asg (pe_bm0 PySem.F.plainAttrs_list PySem.F.slot_list_pop PySem.F.type_list_pop mt_pop (pe_var g1 g2 g3 g4) rfl h3) (s_tg1 xs.xo h4) rfl rfl (by rw [as_star (chkTg_star h4)]; rfl)) fun D σ H q => pop_key q
    · cases h
  | .put i k e, st, h => by
    unfold chkS at h
    split at h
    · rename_i x px pk pos' pe pos
      simp only [Bool.and_eq_true, Bool.not_eq_true'] at h
      obtain ⟨⟨⟨h1, h2⟩, h3⟩, h4⟩ := h
      obtain ⟨g1, g2, g3, g4⟩ := nameB_ok xs.xo h1
      have hk : X.env.scope.kind = .function := by rw [xs.xo.hsc]; exact xs.kind
      have hsw : ∀ l, swapsWith pe (some (.Subscript (.Name x px) pk pos')) l X.env = pure false := fun l => swNo_ok hk (by cases pe <;> first | rfl | (cases e <;> simp [chkE] at h3))
      have hv : PE X (.Name x px) (tVar i) := pe_var g1 g2 g3 g4
      have h1' := ps_asg (pos := pos) (sE tk hf hgn e sc Fn Ex X _ xs.xo h3).pf (pg_sub (pos := pos') hv (sE tk hf hgn k sc Fn Ex X _ xs.xo h2).pf set_list (by intro v; cases pk <;> first | rfl | cases h4)) (hsw pos.line) (sw_none rfl) rfl
      have h2' := ps_dput (pos := pos) (pos' := pos') (by have := xs.xo.hu; omega) hv (sE tk hf hgn k sc Fn Ex X _ xs.xo h2).pf (sE tk hf hgn e sc Fn Ex X _ xs.xo h3).pf (hsw pos.line)
      exact PS.weak (PS.alt h1' h2') fun D σ H q => put_key q
    · cases h
  | .ex e, st, h => by
    unfold chkS at h
    split at h
    · simp only [Bool.and_eq_true] at h
      have hk : X.env.scope.kind = .function := by rw [xs.xo.hsc]; exact xs.kind
      exact PS.weak (ps_expr (sE tk hf hgn e sc Fn Ex X _ xs.xo h.1).pf (swNo_ok hk (by rw [xs.xo.hsc]; exact h.2))) fun D σ H q => ex_key q
    · cases h
  | .brk, st, h => by
    unfold chkS at h
    split at h
    · refine PS.weak ps_break fun D σ H ⟨c, N, Oi, B, O, r, env, q⟩ => ?_
      have q : FinS T c Oi B O H D (.bk, r) N := q
      exact q O H σ env (Same.refl _)
    · cases h
  | .cnt, st, h => by
    unfold chkS at h
    split at h
    · refine PS.weak ps_continue fun D σ H ⟨c, N, Oi, B, O, r, env, q⟩ => ?_
      have q : FinS T c Oi B O H D (.ct, r) N := q
      exact q O H σ env (Same.refl _)
    · cases h
  | .pas, st, h => by
    unfold chkS at h
    split at h
    · refine PS.weak ps_pass fun D σ H ⟨c, N, Oi, B, O, r, env, q⟩ => ?_
      have q : FinS T c Oi B O H D (.nx, r) N := q
      exact q O H σ env (Same.refl _)
    · cases h
  | .rse, st, h => PS.weak ps_never fun D σ H ⟨c, N, Oi, B, O, r, env, q⟩ => q.elim
theorem sSL (tk : TOk T ct.kw) (hf : ct.fn = T.fn) (hgn : ct.gn = T.gn) (fu : Nat) (xs : XSt T ct.N sc Fn Ex X) : ∀ (s : SL) (st : List Stmt), chkSL ct sc Fn s st = true → PSs X st (rdSL T Ex fu s)
  | .nil, st, h => by
    unfold chkSL at h
    split at h
    · refine PSs.weak pss_nil fun D σ H ⟨c, N, Oi, B, O, r, env, q⟩ => ?_
      have q : FinS T c Oi B O H D (.nx, r) N := q
      exact q O H σ env (Same.refl _)
    · cases h
  | .cons s ss, st, h => by
    unfold chkSL at h
    split at h
    · simp only [Bool.and_eq_true] at h
      refine PSs.weak (pss_cons (sS tk hf hgn fu xs s _ h.1) (sSL tk hf hgn fu xs ss _ h.2)) fun D σ H ⟨c, N, Oi, B, O, r, env, q⟩ => ?_
      unfold evSL at q
      refine ⟨c, N, Oi, B, O, r, env, M.wp_mono (fun qq n q => ?_) (fun _ _ x => x) (M.wp_bind.mp q)⟩
      obtain ⟨fl, r2⟩ := qq
      intro O' H' σ' env' sm
      cases fl with
      | nx => exact ⟨c, n, Oi, B, O', r2, env', M.wp_mono (fun q n h => h.step sm) (fun _ _ x => x) q⟩
      | bk =>
        have q : FinS T c Oi B O H D (.bk, r2) n := q
        exact q O' H' σ' env' sm
      | ct =>
        have q : FinS T c Oi B O H D (.ct, r2) n := q
        exact q O' H' σ' env' sm
      | rt v =>
        have q : FinS T c Oi B O H D (.rt v, r2) n := q
        exact q O' H' σ' env' sm
    · cases h
end
end
end DS

set_option Elab.async false
set_option linter.all false
set_option autoImplicit false
set_option maxRecDepth 100000
set_option maxHeartbeats 4000000
/-! DS23: defs. -/
namespace DS
open PySem PySem.Spec PySem.SeqAt PyProof.Rows L2

section
variable {P : Program} {w : World} {K : Frag} {mg : Str → Option Value} {base : Heap} {k : Nat} {f : Addr} {fd : FuncData} {x qual : Str} {st : Stmt} {N ps : List Str} {sp : Sp}
/-- a def's promise by its body, nothing being shown around -/
theorem fnG_of (F : L2.Fun K x qual st f fd) (S : FnScope N ps (defScope st)) (hlen : ∀ vs H Q E, sp vs H Q E → vs.length = ps.length)
    (hb : ∀ (cdv : Value) (A : Around) (outer : List PySem.Env) (s : Shared) (H : Hp) (vs : List V) (Q : VK) (E : XK), Room k (A.deeper (envOfC qual (defScope st) s.heap.objs.size f cdv)) → A.guards = some [] → sp vs H Q E →
      ∃ t, PSs (cxOf (L2.CX P w) P w K mg base N qual (defScope st) f cdv A outer s H E) (defBody st) t ∧ t { nx := fun _ H' => Q .non H', rt := Q } (L2.start N vs) H) : FnG P w K mg base (k + 1) f fd ps sp := by
  obtain ⟨oc, od, kV, doc, pm, an, cdv, ct, osl, rfl, look, code⟩ := F.ex
  constructor
  · exact hlen
  · intro A outer s H args us vs Q E room gd env binds rv want
    have lenV : vs.length = ps.length := hlen vs H Q E want
    have kin : K.In s.heap := env.mod.kin.keeps fun b o e => (env.bs b o e).1
    have nolim : s.heap.NoLimit := env.mod.nolimit.keeps fun b o e => (env.bs b o e).1
    have loc : ∀ y ∈ ps.zip us, (defScope st).names.lookup y.1 = some .local ∨ ((defScope st).names.lookup y.1 = some .cell ∧ ((cellsFrom (s.heap.objs.size + 1) (defScope st).names []).lookup y.1).isSome = true) := by
      rintro ⟨n, v⟩ hy
      have hmem : n ∈ ps := (List.of_mem_zip hy).1
      cases S.par n hmem with
      | inl q => exact Or.inl q
      | inr q => exact Or.inr ⟨q, PySem.W.cellsFrom_some _ _ _ (Or.inl q)⟩
    apply codeAny_call_function room.depth (kin _ _ look) rfl S.co S.gen rfl (PySem.W.codeRec_of kin code)
    apply binds
    apply wpAny_newFunctionEnv_cells S.kind loc
    intro env' he s1 inCall
    subst he
    constructor
    · exact nolim.keeps inCall.toInCall.keep
    · apply codeAny_func
      obtain ⟨t, run, now⟩ := hb cdv A outer s H vs Q E (room.deeper _) gd want
      have inv := inv_start (CX := L2.CX P w) (P := P) (w := w) (mg := mg) (base := base) (qual := qual) (f := f) (cd := cdv) (E := E) S room.hd env lenV rv inCall
      refine wpAny_mono (run.run [] s1 (L2.start N vs) H _ inv now) ?_ (fun e s' z => z)
      intro fl s' hs
      cases fl with
      | next =>
        obtain ⟨σ', H', J, q⟩ := hs
        exact ⟨V.non, H', J.os, J.bare, J.base, J.hok, rfl, q⟩
      | ret u =>
        obtain ⟨v, σ', H', J, r2, q⟩ := hs
        exact ⟨v, H', J.os, J.bare, J.base, J.hok, r2, q⟩
      | brk =>
        obtain ⟨_, _, _, z⟩ := hs
        exact z.elim
      | cont =>
        obtain ⟨_, _, _, z⟩ := hs
        exact z.elim
end
/-- the place of a def's body -/
theorem xst_def {T : Stc} {N : List Str} {qual : Str} {sc : Scope} {f : Addr} {cdv : Value} {A : Around} {outer : List PySem.Env} {s : Shared} {H : Hp} {E : XK} {ps : List Str} (S : FnScope N ps sc) (room : Room T.k (A.deeper (envOfC qual sc s.heap.objs.size f cdv))) (gd : A.guards = some []) :
    XSt T N sc (fun _ => true) E (cxOf (L2.CX T.P T.w) T.P T.w T.K T.mg T.base N qual sc f cdv A outer s H E) where
  xo := {
    hP := rfl
    hw := rfl
    hK := rfl
    hmg := rfl
    hbase := rfl
    hN := rfl
    hsc := rfl
    calm := rfl
    nd := S.nd
    room := room
    gd := gd
    hfn := rfl
    pas := passes_call (takes_of rfl rfl rfl rfl) fun _ _ _ _ h => h }
  kind := S.kind
  po := passes_of rfl
theorem start_len {N : List Str} {vs : List V} (h : vs.length ≤ N.length) : (L2.start N vs).length = N.length := by
  unfold L2.start
  rw [List.length_append, List.length_map, List.length_replicate]
  omega
theorem RWs.get {K : Frag} {fa : Nat → Addr} {c : StA} {G : Hp} : ∀ {vs : List V} {ws : List W} {i : Nat} {w : W}, RWs K fa c G vs ws → ws[i]? = some w → ∃ v, vs[i]? = some v ∧ RW K fa c G v w
  | _, _, _, _, .nil, e => by simp at e
  | _, _, 0, _, .cons a _, e => by simp at e; subst e; exact ⟨_, rfl, a⟩
  | _, _, i + 1, _, .cons _ t, e => by
    obtain ⟨v, h1, h2⟩ := t.get (i := i) (by simpa using e)
    exact ⟨v, by simpa using h1, h2⟩
/-- the names at a def's entry -/
theorem env_start {T : Stc} {c : StA} {n m : Nat} {O : List Addr} {H : Hp} {N : List Str} {vs : List V} {ws : List W} (h1 : c.sa ∈ O) (h2 : c.la ∈ O) (h3 : ∀ b ∈ O, ∃ o, H b = some o) (h4 : StOk c n H) (h5 : RWs T.K T.fa c (hide O H) vs ws) (hl : ws.length = m) (hN : m ≤ N.length) :
    EOk T c n O H O H (L2.start N vs) (ws.map .sh ++ List.replicate (N.length - m) .no) where
  sub := fun _ h => h
  sO := h1
  lO := h2
  cB := fun z => by
    obtain ⟨_, _, _, _, q, _⟩ := h4.ex
    rw [z] at q; cases q
  trk := h3
  st := h4
  fr := Fr.refl
  len := by
    rw [start_len (by rw [h5.len]; omega), List.length_append, List.length_map, List.length_replicate]
    omega
  sh := fun i w hw => by
    by_cases hi : i < ws.length
    · rw [List.getElem?_append_left (by simpa using hi), List.getElem?_map] at hw
      cases e : ws[i]? with
      | none => rw [e] at hw; cases hw
      | some u =>
        rw [e] at hw
        cases hw
        obtain ⟨v, g1, g2⟩ := h5.get e
        refine ⟨v, ?_, g2⟩
        unfold L2.start
        rw [List.getElem?_append_left (by rw [List.length_map, h5.len]; exact hi), List.getElem?_map, g1]
        rfl
    · rw [List.getElem?_append_right (by simpa using hi), List.getElem?_replicate] at hw
      split at hw <;> cases hw
  ow := fun i w hw => by
    by_cases hi : i < ws.length
    · rw [List.getElem?_append_left (by simpa using hi), List.getElem?_map] at hw
      cases e : ws[i]? with
      | none => rw [e] at hw; cases hw
      | some u => rw [e] at hw; cases hw
    · rw [List.getElem?_append_right (by simpa using hi), List.getElem?_replicate] at hw
      split at hw <;> cases hw
  inj := fun i j w w' a hw => by
    exfalso
    by_cases hi : i < ws.length
    · rw [List.getElem?_append_left (by simpa using hi), List.getElem?_map] at hw
      cases e : ws[i]? with
      | none => rw [e] at hw; cases hw
      | some u => rw [e] at hw; cases hw
    · rw [List.getElem?_append_right (by simpa using hi), List.getElem?_replicate] at hw
      split at hw <;> cases hw
theorem evD_len {fs : Fns} {gs : List W} {fu n np : Nat} {body : SL} {ws : List W} {N : Nat} {Q : W → Nat → Prop} {E : EXk} (h : (evD fs gs fu n np body ws).wp N Q E) : ws.length = np := by
  unfold evD at h
  split at h
  · assumption
  · exact h.elim
/-- behind a body -/
theorem fin_body {T : Stc} {c : StA} {O : List Addr} {H : Hp} {Q : VK} {E : EXk} {q : Fl × Env} {n : Nat} (h : (match q.1 with
    | .rt w => M.ret w
    | .nx => .ret (.d .none)
    | _ => .stuck : M W).wp n (Fin T c O H false Q) E) : FinS T c O H O H { nx := fun _ H' => Q .non H', rt := Q } q n := by
  obtain ⟨fl, r⟩ := q
  intro O' H' σ' env sm
  cases fl with
  | nx =>
    have h : Fin T c O H false Q (.d .none) n := h
    exact h .non H' env.fr env.st (.inl (.d .non))
  | rt w =>
    have h : Fin T c O H false Q w n := h
    exact fun v rv => h v H' env.fr env.st (.inl (rv.mono (hide_sub env.sub)))
  | bk => exact h.elim
  | ct => exact h.elim
/-- a def of the text -/
theorem fnG_ev {T : Stc} {ct : Ct} {x : Str} {st : Stmt} {f : Addr} {fd : FuncData} {ps : List Str} {fu np : Nat} {body : SL} (F : L2.Fun T.K x x st f fd) (tk : TOk T ct.kw) (hf : ct.fn = T.fn) (hgn : ct.gn = T.gn) (S : FnScope ct.N ps (defScope st)) (hp : ps.length = np)
    (hc : chkSL ct (defScope st) (fun _ => true) body (defBody st) = true) : FnG T.P T.w T.K T.mg T.base (T.k + 1) f fd ps (spM T np (evD T.fs T.gs fu ct.N.length np body)) := by
  refine fnG_of F S (fun vs H Q E h => by rw [hp]; exact h.1) fun cdv A outer s H vs Q E room gd ⟨hl, c, n, O, ws, h1, h2, h3, h4, h5, q⟩ => ?_
  refine ⟨_, sSL tk hf hgn fu (xst_def S room gd) body (defBody st) hc, ?_⟩
  have hpl : ps.length ≤ ct.N.length := by have := congrArg List.length S.pre; rw [List.length_take] at this; omega
  have hws := evD_len q
  unfold evD at q
  rw [if_pos hws] at q
  refine ⟨c, n, O, H, O, _, env_start h1 h2 h3 h4 h5 hws (by omega), M.wp_mono (fun q n h => fin_body h) (fun _ _ h => h) (M.wp_bind.mp q)⟩

/-! ### the defs, one after another -/
/-- what is the same for all defs of a text -/
structure Gnd where
  P : Program
  w : World
  K : Frag
  mg : Str → Option Value
  base : Heap
  fa : Nat → Addr
  ctt : Nat → Addr
  gs : List W
  gn : List Str
def mkT (g : Gnd) (names : List Str) (fs : Fns) (k : Nat) : Stc := ⟨g.P, g.w, g.K, g.mg, g.base, k, g.fa, g.ctt, fs, g.gs, names, g.gn⟩
section
variable {g : Gnd} {names : List Str} {fs : Fns} {k k' : Nat} {kw : List (Nat × Nat × List Str × List Nat)}
/-- what is known of a def of the text -/
structure DefK (g : Gnd) (j : Nat) (x : Str) (ps : List Str) (st : Stmt) (fd : FuncData) : Prop where
  fn : L2.Fun g.K x x st (g.fa j) fd
  mg : g.mg x = some (.ref (g.fa j))
  bd : Binds g.K fd ps []
theorem tok_step (tk : TOk (mkT g names fs k) kw) {x : Str} {F : List W → M W} {n : Nat} {fd : FuncData} {ps : List Str} {st : Stmt} (d : DefK g fs.length x ps st fd) (hp : ps.length = n) (hk : k ≤ k')
    (G : FnG g.P g.w g.K g.mg g.base k' (g.fa fs.length) fd ps (spM (mkT g names fs k) n F)) (ha : ∀ ws N Q E, (F ws).wp N Q E → ws.length = n) (hkw : ∀ q ∈ kw, q.1 = fs.length → KwOk g.K fd ps q.2.1 q.2.2.1 q.2.2.2) : TOk (mkT g (names ++ [x]) (fs ++ [F]) k') kw where
  fns := fun i y hy => by
    have ln : names.length = fs.length := tk.ln
    have hy : (names ++ [x])[i]? = some y := hy
    by_cases q : i < fs.length
    · rw [List.getElem?_append_left (by omega)] at hy
      obtain ⟨F', n', fd', ps', g1, g2, g3, g4, g5, g6, g7, g8⟩ := tk.fns i y hy
      have g1 : fs[i]? = some F' := g1
      refine ⟨F', n', fd', ps', ?_, g2, g3, g4, g5, g6.mono hk, g7, g8⟩
      show (fs ++ [F])[i]? = some F'
      rw [List.getElem?_append_left q]
      exact g1
    · have h1 := get_lt' hy
      rw [List.length_append] at h1
      have e : i = fs.length := by simp at h1; omega
      subst e
      rw [List.getElem?_append_right (by omega), ln, Nat.sub_self] at hy
      cases hy
      refine ⟨F, n, fd, ps, ?_, d.mg, d.fn.kp, d.bd, hp, G, ha, hkw⟩
      show (fs ++ [F])[fs.length]? = some F
      rw [List.getElem?_append_right (by omega), Nat.sub_self]
      rfl
  gls := tk.gls
  bn := tk.bn
  ln := by
    have ln : names.length = fs.length := tk.ln
    show (names ++ [x]).length = (fs ++ [F]).length
    rw [List.length_append, List.length_append, ln]
    rfl
theorem tok_zero (hg : ∀ (j : Nat) (x : Str), g.gn[j]? = some x → ∃ w u v, g.gs[j]? = some w ∧ g.mg x = some u ∧ RelV v u ∧ ∀ c G, RW g.K g.fa c G v w) (hb : ∀ x ∈ bnames, g.mg x = none) : TOk (mkT g [] [] 0) kw where
  fns := fun i x h => by simp [mkT] at h
  gls := hg
  bn := hb
  ln := rfl
/-- a def that is read by its text -/
theorem tok_ev (tk : TOk (mkT g names fs k) kw) {ct : Ct} {x : Str} {fd : FuncData} {ps : List Str} {st : Stmt} {fu np : Nat} {body : SL} (d : DefK g fs.length x ps st fd) (hc : ct.fn = names ∧ ct.gn = g.gn ∧ ct.kw = kw) (S : FnScope ct.N ps (defScope st)) (hp : ps.length = np)
    (chk : chkSL ct (defScope st) (fun _ => true) body (defBody st) = true) (hkw : ∀ q ∈ kw, q.1 = fs.length → KwOk g.K fd ps q.2.1 q.2.2.1 q.2.2.2) : TOk (mkT g (names ++ [x]) (fs ++ [evD fs g.gs fu ct.N.length np body]) (k + 1)) kw := by
  obtain ⟨h1, h2, h3⟩ := hc
  refine tok_step tk d hp (Nat.le_succ k) ?_ (fun ws N Q E h => evD_len h) hkw
  exact fnG_ev (T := mkT g names fs k) (ct := ct) d.fn (by rw [h3]; exact tk) h1 h2 S hp chk
/-- a def that calls itself -/
def evR (fs : Fns) (gs : List W) (fu n np : Nat) (body : SL) : Nat → List W → M W
  | 0 => fun _ => .stuck
  | m + 1 => evD (fs ++ [evR fs gs fu n np body m]) gs fu n np body
theorem evR_len {gs : List W} {fu n np : Nat} {body : SL} {m : Nat} {ws : List W} {N : Nat} {Q : W → Nat → Prop} {E : EXk} (h : (evR fs gs fu n np body m ws).wp N Q E) : ws.length = np := by
  cases m with
  | zero => exact h.elim
  | succ m => exact evD_len h
theorem tok_rec (tk : TOk (mkT g names fs k) kw) {ct : Ct} {x : Str} {fd : FuncData} {ps : List Str} {st : Stmt} {fu np : Nat} {body : SL} (m : Nat) (d : DefK g fs.length x ps st fd) (hc : ct.fn = names ++ [x] ∧ ct.gn = g.gn ∧ ct.kw = kw) (S : FnScope ct.N ps (defScope st)) (hp : ps.length = np)
    (chk : chkSL ct (defScope st) (fun _ => true) body (defBody st) = true) (hkw : ∀ q ∈ kw, q.1 = fs.length → KwOk g.K fd ps q.2.1 q.2.2.1 q.2.2.2) : TOk (mkT g (names ++ [x]) (fs ++ [evR fs g.gs fu ct.N.length np body m]) (k + m)) kw := by
  obtain ⟨h1, h2, h3⟩ := hc
  induction m with
  | zero =>
    refine tok_step tk d hp (Nat.le_refl _) ⟨fun vs H Q E h => by rw [hp]; exact h.1, fun A outer s H args us vs Q E _ _ _ _ _ ⟨_, _, _, _, _, _, _, _, _, _, z⟩ => z.elim⟩ (fun ws N Q E h => evR_len h) hkw
  | succ m ih =>
    refine tok_step tk d hp (by omega) ?_ (fun ws N Q E h => evR_len h) hkw
    exact fnG_ev (T := mkT g (names ++ [x]) (fs ++ [evR fs g.gs fu ct.N.length np body m]) (k + m)) (ct := ct) d.fn (by rw [h3]; exact ih) h1 h2 S hp chk
end
end DS

set_option Elab.async false
set_option linter.all false
set_option autoImplicit false
set_option maxRecDepth 100000
set_option maxHeartbeats 4000000
/-! DS24: the laws' own helpers: like, mixed, draw. -/
namespace DS
open PySem PySem.Spec PySem.SeqAt PyProof.Rows L2

/-! ### repr -/
def okS (d : PyData) : Bool := d.showable && d.leavesShort 600 && decide (d.bulk ≤ 20000) && decide (d.depth ≤ 60)
theorem okS_fits {d : PyData} (h : okS d = true) : d.showable = true ∧ d.shown.length ≤ sizeLine ∧ d.depth ≤ 60 := by
  unfold okS at h
  simp only [Bool.and_eq_true, decide_eq_true_eq] at h
  obtain ⟨⟨⟨h1, h2⟩, h3⟩, h4⟩ := h
  refine ⟨h1, ?_, h4⟩
  have := PyData.shown_le_bulk 600 (by omega) d h2
  rw [sizeLine_eq]
  have h5 : (600 + 2) * d.bulk ≤ 602 * 20000 := Nat.mul_le_mul_left _ h3
  omega
mutual
theorem RD.nodict {K : Frag} {G : Hp} : ∀ (d : PyData) (v : V), RD K G v d → d.hasDict = false
  | .none, _, _ => rfl
  | .bool _, _, _ => rfl
  | .int _, _, _ => rfl
  | .str _, _, _ => rfl
  | .list ds, _, h => by
    cases h with
    | lst _ h2 => simp only [PyData.hasDict]; exact RDs.nodict ds _ h2
  | .tuple ds, _, h => by
    cases h with
    | tup _ h2 => simp only [PyData.hasDict]; exact RDs.nodict ds _ h2
  | .dict _, _, h => by cases h
theorem RDs.nodict {K : Frag} {G : Hp} : ∀ (ds : List PyData) (vs : List V), RDs K G vs ds → PyData.hasDictAll ds = false
  | [], _, _ => rfl
  | d :: ds, _, h => by
    cases h with
    | cons h1 h2 => simp only [PyData.hasDictAll, RD.nodict d _ h1, RDs.nodict ds _ h2, Bool.or_false]
end
def rRepr (K : Frag) : List V → Hp → VK → Prop := fun xs H Q => ∃ x d, xs = [x] ∧ Dp K H x d ∧ d.hasDict = false ∧ okS d = true ∧ Q (.str d.shown) H
theorem call_repr_d {X : Cx} (gd : X.A.guards = some []) (hu : X.A.units + 65 < cLine) : CallR X (.builtin "repr") (rRepr X.K) := by
  intro pins s σ H xs us Q I r ⟨x, d, e, dp, nd, ok, q⟩
  subst e
  obtain ⟨u, rfl, rx⟩ := vals1 r
  obtain ⟨h1, h2, h3⟩ := okS_fits ok
  have fin : ∀ (h' : Heap) (t tk : Tok), (∀ b o, s.heap.get? b = some o → h'.get? b = some o) → EP X pins σ Q (.str d.shown t) { s with heap := h', toks := tk } := fun h' t tk hk => ⟨.str d.shown, H, I.kept (t' := tk) hk, ⟨t, rfl⟩, q⟩
  obtain ⟨as, rd⟩ := Dp.reads I d x u dp rx
  have hsm : d.hasDict = true → sysModules ∉ as := fun z => by rw [nd] at z; cases z
  cases rd with
  | none => exact PySem.P.repr_of_none (fin s.heap _ _ fun _ _ z => z)
  | bool b => exact PySem.P.repr_of_bool (fin s.heap _ _ fun _ _ z => z)
  | int i t =>
    have h1 : i.natAbs.log2 < 1920 := by simpa [PyData.showable] using h1
    exact PySem.P.repr_of_int h1 (fin s.heap _ _ fun _ _ z => z)
  | str y t => exact PySem.P.repr_of_str (fin s.heap _ _ fun _ _ z => z) h2
  | list a b c e => exact repr_of_reads' (Reads.list a b c e) h1 hsm gd (by omega) (fun _ _ z => z) (fun h' u tk hk => fin h' u tk hk) h2
  | tuple a b c e => exact repr_of_reads' (Reads.tuple a b c e) h1 hsm gd (by omega) (fun _ _ z => z) (fun h' u tk hk => fin h' u tk hk) h2
  | dict a b c e f => cases dp
def likeF : List W → M W
  | [.d a, .d b] => if okS a = true ∧ okS b = true then .ret (.b (decide (a.shown = b.shown))) else .stuck
  | _ => .stuck
theorem likeF_len {ws : List W} {N : Nat} {Q : W → Nat → Prop} {E : EXk} (h : (likeF ws).wp N Q E) : ws.length = 2 := by
  unfold likeF at h
  split at h
  · rfl
  · exact h.elim
/-- the reading of like's body -/
def likeTS (K : Frag) : TS := tRet (tOp rEq (tCB (rRepr K) (tCons (tVar 0) tNil)) (tCB (rRepr K) (tCons (tVar 1) tNil)))
theorem like_key {T : Stc} {vs : List V} {H : Hp} {Q : VK} {E : XK} (h : spM T 2 likeF vs H Q E) : likeTS T.K { nx := fun _ H' => Q .non H', rt := Q } (L2.start ["a", "b"] vs) H := by
  obtain ⟨hl, c, n, O, ws, h1, h2, h3, h4, h5, q⟩ := h
  unfold likeF at q
  split at q
  · rename_i a b
    split at q
    · rename_i hok
      cases h5 with
      | cons ra h5 => cases h5 with
        | cons rb h5 => cases h5 with
          | nil =>
            have q : Fin T c O H false Q (.b (decide (a.shown = b.shown))) n := q
            refine ⟨_, rfl, _, a, rfl, dp_same hide_le _ _ (RD.dp _ _ ra.data), RD.nodict _ _ ra.data, hok.1, _, rfl, _, b, rfl, dp_same hide_le _ _ (RD.dp _ _ rb.data), RD.nodict _ _ rb.data, hok.2, rfl, ?_⟩
            refine q _ H Fr.refl h4 (.inl (.d ?_))
            have e : decide (V.str a.shown = V.str b.shown) = decide (a.shown = b.shown) := by
              by_cases z : a.shown = b.shown
              · rw [z]; simp
              · rw [decide_eq_false z, decide_eq_false]
                exact fun y => z (V.str.inj y)
            rw [e]
            exact .bl _
    · exact q.elim
  · exact q.elim

/-! ### mixed -/
def mixB : SL := .cons (.asg (.n 0) (.bin .mod (.b1 .int (.v 0)) (.int 2147483647))) (.cons (.ret (.bin .mod (.bin .mul (.bin .mod (.bin .add (.bin .add (.bin .mul (.v 0) (.bin .add (.int 48271) (.bin .mul (.bin .mul (.int 2) (.v 1)) (.v 1)))) (.bin .mul (.int 69621) (.v 1))) (.int 11)) (.int 2147483647)) (.int 69621)) (.int 2147483629))) .nil)
def mixI (c k : Int) : Int := (c % 2147483647 * (48271 + 2 * k * k) + 69621 * k + 11) % 2147483647 * 69621 % 2147483629
theorem log_lt {i : Int} {m : Nat} (h0 : 0 ≤ i) (h : i < 2 ^ m) (hm : 0 < m) : i.natAbs.log2 < m := by
  by_cases z : i.natAbs = 0
  · rw [z]; simpa using hm
  · rw [Nat.log2_lt z]
    have : ((i.natAbs : Nat) : Int) < ((2 ^ m : Nat) : Int) := by rw [Int.natAbs_of_nonneg h0, Int.natCast_pow]; exact h
    exact_mod_cast this
theorem mul_ok {i j : Int} (hi : 0 ≤ i) (h2 : i < 2 ^ 200) (hj : 0 ≤ j) (h3 : j < 2 ^ 200) : intMul i j = some (.i (i * j)) := by
  unfold intMul
  rw [if_pos]
  have := log_lt hi h2 (by omega)
  have := log_lt hj h3 (by omega)
  omega
theorem mix_ret {gs : List W} {fu : Nat} {c k : Int} (h0 : 0 ≤ k) (h1 : k < 2 ^ 41) : evD [] gs fu 2 2 mixB [.i c, .i k] = .ret (.i (mixI c k)) := by
  have e0 : 0 ≤ c % 2147483647 := Int.emod_nonneg _ (by omega)
  have e1 : c % 2147483647 < 2147483647 := Int.emod_lt_of_pos _ (by omega)
  have k2 : 2 * k * k < 2 ^ 83 := by
    have : 2 * k * k ≤ 2 * k * 2 ^ 41 := Int.mul_le_mul_of_nonneg_left (by omega) (by omega)
    omega
  have k3 : 0 ≤ 2 * k * k := Int.mul_nonneg (by omega) h0
  have m1 : intMul 2 k = some (.i (2 * k)) := mul_ok (by omega) (by omega) h0 (by omega)
  have m2 : intMul (2 * k) k = some (.i (2 * k * k)) := mul_ok (by omega) (by omega) h0 (by omega)
  have m3 : intMul (c % 2147483647) (48271 + 2 * k * k) = some (.i (c % 2147483647 * (48271 + 2 * k * k))) := mul_ok e0 (by omega) (by omega) (by omega)
  have m4 : intMul 69621 k = some (.i (69621 * k)) := mul_ok (by omega) (by omega) h0 (by omega)
  have f0 : 0 ≤ (c % 2147483647 * (48271 + 2 * k * k) + 69621 * k + 11) % 2147483647 := Int.emod_nonneg _ (by omega)
  have f1 : (c % 2147483647 * (48271 + 2 * k * k) + 69621 * k + 11) % 2147483647 < 2147483647 := Int.emod_lt_of_pos _ (by omega)
  have m5 : intMul ((c % 2147483647 * (48271 + 2 * k * k) + 69621 * k + 11) % 2147483647) 69621 = some (.i ((c % 2147483647 * (48271 + 2 * k * k) + 69621 * k + 11) % 2147483647 * 69621)) := mul_ok f0 (by omega) (by omega) (by omega)
  unfold evD
  rw [if_pos (show [W.i c, W.i k].length = 2 from rfl)]
  simp [mixB, evSL, evS, evE, escE, dem, dem1, getN, binW, int2, mulW, intMod, b1W, intW, addW, asgE, fresh, isBox, W.i, m1, m2, m3, m4, m5, mixI]
theorem mixI_lo (c k : Int) : 0 ≤ mixI c k ∧ mixI c k < 2147483629 := ⟨Int.emod_nonneg _ (by omega), Int.emod_lt_of_pos _ (by omega)⟩
end DS

set_option Elab.async false
set_option linter.all false
set_option autoImplicit false
set_option maxRecDepth 100000
set_option maxHeartbeats 4000000
/-! DS25: draw. -/
namespace DS
open PySem PySem.Spec PySem.SeqAt PyProof.Rows L2
def drawF : List W → M W
  | [.tok, .d (.int l)] => if l.natAbs.log2 < 9000 then .draw l fun i => .ret (.i i) else .stuck
  | _ => .stuck
theorem drawF_len {ws : List W} {N : Nat} {Q : W → Nat → Prop} {E : EXk} (h : (drawF ws).wp N Q E) : ws.length = 2 := by
  unfold drawF at h
  split at h
  · rfl
  · exact h.elim
def rInt1 : List V → Hp → VK → Prop := fun xs H Q => (∃ i, xs = [V.int i] ∧ Q (V.int i) H) ∨ ∃ k, xs = [V.bl k] ∧ Q (V.int (if k = true then 1 else 0)) H
def rLenS (K : Frag) : List V → Hp → VK → Prop := fun xs H Q => ∃ p ys, xs = [V.ref p] ∧ (SqL K H p ys ∨ SqT K H p ys) ∧ Q (V.int ↑ys.length) H
abbrev rModI : R2 := rI (fun _ j => 0 < j) fun i j => V.int (i % j)
abbrev rDivI : R2 := rI CDivW fun i j => V.int (i / j)
abbrev rMulI : R2 := rI CMulW fun i j => V.int (i * j)
abbrev rAddI : R2 := rI0 fun i j => V.int (i + j)
def stGet (k : Str) : TE := tDGet (tVar 0) (tC (.str k))
def mixS (T : Stc) (E : XK) (a b : TE) : TE := tCG (spM T 2 (evD [] T.gs 0 2 2 mixB)) E (tCons a (tCons b tNil))
/-- the reading of draw's body -/
def drawTS (T : Stc) (E : XK) : TS :=
  tSeq (tAsg (stGet "at") (gName 2))
  (tSeq (sDPut (tVar 0) (tC (.str "at")) (tOp rAddI (tVar 2) (tC (.int 1))))
  (tSeq (tAsg (tOp rModI (tCB rInt1 (tCons (tVar 2) tNil)) (tCB (rLenS T.K) (tCons (stGet "cells") tNil))) (gName 3))
  (tSeq (tAsg (tOp (rIxL T.K) (stGet "lefts") (tVar 3)) (gName 4))
  (tSeq (tIfS (tTest (tOp (rI0 fun i j => .bl (decide (j < i))) (tVar 4) (tC (.int 0))))
    (tSeq (tAsg (tOp rDivI (tVar 4) (tVar 1)) (gSub (stGet "lefts") (tVar 3) rSetL)) (tRet (tOp rModI (tCB rInt1 (tCons (tVar 4) tNil)) (tVar 1)))) tNext)
  (tSeq (tAsg (mixS T E (mixS T E (tOp (rIxL T.K) (stGet "cells") (tVar 3)) (tVar 2)) (tOp rAddI (tC (.int 40)) (tVar 2))) (gName 5))
  (tRet (tOp rModI (tOp rDivI (tCB rInt1 (tCons (tOp rAddI (tOp rMulI (tVar 5) (tC (.int 2147483647))) (mixS T E (tVar 5) (tOp rAddI (tC (.int 7)) (tVar 2)))) tNil)) (tC (.int 64))) (tVar 1))))))))
theorem st_at {c : StA} {n : Int} : valV (stDict c n) (Sum.inr "at") = some (.int n) := rfl
theorem st_cells {c : StA} {n : Int} : valV (stDict c n) (Sum.inr "cells") = some (.ref c.ca) := rfl
theorem st_lefts {c : StA} {n : Int} : valV (stDict c n) (Sum.inr "lefts") = some (.ref c.la) := rfl
theorem st_put {c : StA} {n m : Int} : putK (stDict c n) (Sum.inr "at") (.int m) = stDict c m := rfl
theorem ix_some {α : Type} {xs : List α} {i : Int} (h0 : 0 ≤ i) (h1 : i < xs.length) : ∃ x, atI xs i = some x ∧ ixN xs.length i = some i.toNat := by
  have h2 : ixN xs.length i = some i.toNat := by unfold ixN; rw [if_pos h0, if_pos h1]
  have h3 : i.toNat < xs.length := by omega
  exact ⟨xs[i.toNat], by unfold atI; rw [h2]; exact List.getElem?_eq_getElem h3, h2⟩
theorem atI_map {is : List Int} {i : Int} {v : V} (h : atI (is.map V.int) i = some v) : ∃ z, v = .int z := by
  unfold atI at h
  rw [List.length_map] at h
  cases q : ixN is.length i with
  | none => rw [q] at h; cases h
  | some j =>
    rw [q] at h
    have h : (is.map V.int)[j]? = some v := h
    rw [List.getElem?_map] at h
    cases q2 : is[j]? with
    | none => rw [q2] at h; cases h
    | some z => rw [q2] at h; exact ⟨z, (Option.some.inj h).symm⟩
/-- mixed is called -/
theorem mix_sp {T : Stc} {E : XK} {H : Hp} {Q : VK} {c : StA} {n : Nat} {O : List Addr} {u k : Int} (h1 : c.sa ∈ O) (h2 : c.la ∈ O) (k0 : 0 ≤ k) (k1 : k < 2 ^ 41) (ht : ∀ b ∈ O, ∃ o, H b = some o) (st : StOk c n H)
    (q : ∀ z H3, 0 ≤ z → z < 2147483629 → Fr c H H3 → StOk c n H3 → Q (.int z) H3) : spM T 2 (evD [] T.gs 0 2 2 mixB) [.int u, .int k] H Q E := by
  refine ⟨rfl, c, n, O, [.i u, .i k], h1, h2, ht, st, .cons (.d (.int u)) (.cons (.d (.int k)) .nil), ?_⟩
  rw [mix_ret k0 k1]
  intro v H3 f s rb
  rw [rb.int]
  exact q _ H3 (mixI_lo u k).1 (mixI_lo u k).2 f s
theorem trk_fr {c : StA} {n : Nat} {O : List Addr} {H H1 : Hp} (t : ∀ b ∈ O, ∃ o, H b = some o) (f : Fr c H H1) (s : StOk c n H1) : ∀ b ∈ O, ∃ o, H1 b = some o := fun b hb => by
  by_cases e1 : b = c.sa
  · rw [e1]; exact s.sa
  · by_cases e2 : b = c.la
    · rw [e2]; exact s.la
    · obtain ⟨o, ho⟩ := t b hb
      exact ⟨o, f b o e1 e2 ho⟩
theorem draw_key {T : Stc} {vs : List V} {H : Hp} {Q : VK} {E : XK} (h : spM T 2 drawF vs H Q E) : drawTS T E { nx := fun _ H' => Q .non H', rt := Q } (L2.start ["s", "l", "a", "p", "f", "n"] vs) H := by
  obtain ⟨hl, c, n, O, ws, h1, h2, h3, h4, h5, q⟩ := h
  unfold drawF at q
  split at q
  · rename_i l
    split at q
    · rename_i hlog
      obtain ⟨l0, hn, q⟩ := q
      cases h5 with
      | cons ra h5 => cases h5 with
        | cons rb h5 => cases h5 with
          | nil =>
            cases ra
            have e := rb.inti
            subst e
            obtain ⟨⟨cs, ls, m, g1, g2, g3, hne, hlen, m0, m1⟩, ne⟩ := h4
            have hs0 : (L2.start ["s", "l", "a", "p", "f", "n"] [.ref c.sa, .int l]) = [some (.ref c.sa), some (.int l), none, none, none, none] := rfl
            rw [hs0]
            have hcs : 0 < (cs.length : Int) := by
              have : cs.length ≠ 0 := fun z => hne (List.length_eq_zero_iff.mp z)
              omega
            have nca : c.ca ≠ c.sa := fun z => by rw [z, g1] at g2; cases g2
            have nla : c.la ≠ c.sa := fun z => by rw [z, g1] at g3; cases g3
            -- at
            refine ⟨.ref c.sa, rfl, c.sa, .int m, rfl, DGet.k (k := Sum.inr "at") g1, ?_⟩
            -- state["at"] = at + 1
            refine ⟨.int m, rfl, m, 1, rfl, rfl, .ref c.sa, rfl, c.sa, upd H c.sa (.dK (stDict c (m + 1))), rfl, DPut.k (k := Sum.inr "at") g1 (by rw [sizeLine_eq]; show 3 < _; omega), ?_⟩
            generalize hH1 : upd H c.sa (.dK (stDict c (m + 1))) = H1
            have k1 : H1 c.sa = some (.dK (stDict c (m + 1))) := by rw [← hH1]; exact upd_same
            have k2 : H1 c.ca = some (.lst (cs.map V.int)) := by rw [← hH1, upd_ne nca]; exact g2
            have k3 : H1 c.la = some (.lst (ls.map V.int)) := by rw [← hH1, upd_ne nla]; exact g3
            have f1 : Fr c H H1 := fun b o b1 b2 e => by rw [← hH1, upd_ne b1]; exact e
            have s1 : StOk c (n + 1) H1 := ⟨⟨cs, ls, m + 1, k1, k2, k3, hne, hlen, by omega, by omega⟩, ne⟩
            have t1 : ∀ b ∈ O, ∃ o, H1 b = some o := fun b hb => by
              by_cases z : b = c.sa
              · exact ⟨_, z ▸ k1⟩
              · obtain ⟨o, ho⟩ := h3 b hb
                exact ⟨o, by rw [← hH1, upd_ne z]; exact ho⟩
            -- place
            have dcells : DGet H1 c.sa (.str "cells") (some (.ref c.ca)) := DGet.k (k := Sum.inr "cells") k1
            have dlefts : DGet H1 c.sa (.str "lefts") (some (.ref c.la)) := DGet.k (k := Sum.inr "lefts") k1
            refine ⟨.int m, rfl, .inl ⟨m, rfl, ⟨.ref c.sa, rfl, c.sa, .ref c.ca, rfl, dcells, c.ca, cs.map V.int, rfl, .inl (.inl (.inl k2)), m, _, rfl, rfl, by rw [List.length_map]; exact hcs, ?_⟩⟩⟩
            obtain ⟨p, hp⟩ : ∃ p, p = m % (((cs.map V.int).length : Nat) : Int) := ⟨_, rfl⟩
            have p0 : 0 ≤ p := by rw [hp]; exact Int.emod_nonneg _ (by rw [List.length_map]; omega)
            have p1 : p < cs.length := by rw [hp, List.length_map]; exact Int.emod_lt_of_pos _ hcs
            show tSeq _ _ _ [some (V.ref c.sa), some (V.int l), some (V.int m), some (V.int (m % (((cs.map V.int).length : Nat) : Int))), none, none] H1
            rw [← hp]
            -- left
            obtain ⟨x, hx, hxN⟩ := ix_some (xs := ls.map V.int) p0 (by rw [List.length_map, hlen]; exact p1)
            obtain ⟨f, rfl⟩ := atI_map hx
            refine ⟨.ref c.sa, rfl, c.sa, .ref c.la, rfl, dlefts, .int p, rfl, c.la, ls.map V.int, p, .int f, rfl, rfl, .inl (.inl k3), hx, ?_⟩
            -- if left > 0
            refine ⟨.int f, rfl, f, 0, rfl, rfl, decide (0 < f), rfl, ?_⟩
            by_cases hf : 0 < f
            · rw [decide_eq_true hf]
              refine iteT ?_
              refine ⟨.int f, rfl, .int l, rfl, f, l, rfl, rfl, ⟨l0, hlog⟩, .ref c.sa, rfl, c.sa, .ref c.la, rfl, dlefts, .int p, rfl, c.la, ls.map V.int, p, p.toNat, rfl, rfl, k3, hxN, ?_⟩
              refine ⟨.int f, rfl, .inl ⟨f, rfl, .int l, rfl, f, l, rfl, rfl, l0, ?_⟩⟩
              have hq := q (f % l) (Int.emod_nonneg _ (by omega)) (Int.emod_lt_of_pos _ l0)
              have hq : Fin T c O H false Q (.i (f % l)) (n + 1) := hq
              refine hq _ _ (fun b o b1 b2 e => by rw [upd_ne b2]; exact f1 b o b1 b2 e) ⟨⟨cs, ls.set p.toNat (f / l), m + 1, by rw [upd_ne (Ne.symm nla)]; exact k1, by rw [upd_ne ne]; exact k2, by rw [upd_same, List.map_set], hne, by rw [List.length_set]; exact hlen, by omega, by omega⟩, ne⟩ (.inl (.d (.int _)))
            · rw [decide_eq_false hf]
              refine iteF ?_
              -- number
              obtain ⟨y, hy, _⟩ := ix_some (xs := cs.map V.int) p0 (by rw [List.length_map]; exact p1)
              obtain ⟨u, rfl⟩ := atI_map hy
              refine ⟨.ref c.sa, rfl, c.sa, .ref c.ca, rfl, dcells, .int p, rfl, c.ca, cs.map V.int, p, .int u, rfl, rfl, .inl (.inl k2), hy, .int m, rfl, ?_⟩
              refine mix_sp h1 h2 m0 (by omega) t1 s1 fun z H3 z0 z1 f3 s3 => ?_
              have t3 := trk_fr t1 f3 s3
              refine ⟨.int m, rfl, 40, m, rfl, rfl, mix_sp h1 h2 (by omega) (by omega) t3 s3 fun z4 H4 z40 z41 f4 s4 => ?_⟩
              have t4 := trk_fr t3 f4 s4
              refine ⟨.int z4, rfl, z4, 2147483647, rfl, rfl, ?_, .int z4, rfl, .int m, rfl, 7, m, rfl, rfl, ?_⟩
              · have a1 := log_lt (m := 31) z40 (by omega) (by omega)
                have a2 : (2147483647 : Int).natAbs.log2 < 32 := by decide
                show z4.natAbs.log2 + (2147483647 : Int).natAbs.log2 < 1000000
                omega
              · refine mix_sp h1 h2 (by omega) (by omega) t4 s4 fun z5 H5 z50 z51 f5 s5 => ?_
                refine ⟨_, z5, rfl, rfl, .inl ⟨_, rfl, _, 64, rfl, rfl, ⟨by omega, by decide⟩, .int l, rfl, _, l, rfl, rfl, l0, ?_⟩⟩
                have hq := q ((z4 * 2147483647 + z5) / 64 % l) (Int.emod_nonneg _ (by omega)) (Int.emod_lt_of_pos _ l0)
                have hq : Fin T c O H false Q (.i ((z4 * 2147483647 + z5) / 64 % l)) (n + 1) := hq
                exact hq _ H5 ((f1.trans f3).trans (f4.trans f5)) s5 (.inl (.d (.int _)))
    · exact q.elim
  · exact q.elim
end DS

set_option Elab.async false
set_option linter.all false
set_option autoImplicit false
set_option maxRecDepth 100000
set_option maxHeartbeats 4000000
/-! DS26: begin, law, the end. -/
namespace DS
open PySem PySem.Spec PySem.SeqAt PyProof.Rows L2
def rListOf (K : Frag) : List V → Hp → VK → Prop := fun xs H Q => ∃ p ys, xs = [V.ref p] ∧ (SqL K H p ys ∨ SqT K H p ys) ∧ ∀ l, H l = none → Q (.ref l) (upd H l (.lst ys))
abbrev rPowI : R2 := rI CPow fun i j => V.int (i ^ j.toNat)
abbrev rGeI : R2 := rI0 fun i j => .bl (decide (j ≤ i))
def beginTS (K : Frag) : TS :=
  tSeq (tAsg (tIf (tTest (tOp (rNeD K) (tVar 0) (tLst tNil))) (tCB (rListOf K) (tCons (tVar 0) tNil)) (tLst (tCons (tC (.int 0)) tNil))) (gName 1))
  (tRet (tDisp [(tC (.str "cells"), tVar 1), (tC (.str "lefts"), tLc (iList K (tVar 1)) (gName 2) tYes (tIf (tTest (tOp rGeI (tVar 2) (tOp rPowI (tC (.int 10)) (tC (.int 18))))) (tVar 2) (tC (.int 0))) [2]), (tC (.str "at"), tC (.int 0))]))
def spBegin (K : Frag) : Sp := fun vs H Q _ => ∃ (a : Addr) (ns : List Int), vs = [.ref a] ∧ SqL K H a (ns.map V.int) ∧ ns.length ≤ 1000 ∧ ∀ (c : StA) H', H c.sa = none → H c.ca = none → H c.la = none → Same H H' → StOk c 0 H' → Q (.ref c.sa) H'
theorem shaped_ints (ns : List Int) : shaped (.list (ns.map PyData.int)) = true := by
  have h1 : PyData.canLayAll0 (ns.map PyData.int) = true := by
    induction ns with
    | nil => rfl
    | cons n r ih => rw [List.map_cons, PyData.canLayAll0, ih]; rfl
  have h2 : PyData.depthAll (ns.map PyData.int) = 0 := by
    clear h1
    induction ns with
    | nil => rfl
    | cons n r ih => rw [List.map_cons, PyData.depthAll, ih]; rfl
  unfold shaped
  rw [PyData.canLay0, h1, PyData.depth, h2]
  rfl
theorem dp_ints {K : Frag} {H : Hp} : ∀ ns : List Int, DpAll K H (ns.map V.int) (ns.map PyData.int)
  | [] => .nil
  | n :: r => .cons (.int n) (dp_ints r)
theorem begin_key {K : Frag} {vs : List V} {H : Hp} {Q : VK} {E : XK} (h : spBegin K vs H Q E) : beginTS K { nx := fun _ H' => Q .non H', rt := Q } (L2.start ["s", "c", "i"] vs) H := by
  obtain ⟨a, ns, rfl, hS, hl, q⟩ := h
  have hs0 : L2.start ["s", "c", "i"] [.ref a] = [some (.ref a), none, none] := rfl
  rw [hs0]
  -- behind the first row
  have rest : ∀ (ca : Addr) (cs : List Int) (H2 : Hp), H ca = none → H2 ca = some (.lst (cs.map V.int)) → Same H H2 → cs ≠ [] → cs.length ≤ 1000 → tRet (tDisp [(tC (.str "cells"), tVar 1), (tC (.str "lefts"), tLc (iList K (tVar 1)) (gName 2) tYes (tIf (tTest (tOp rGeI (tVar 2) (tOp rPowI (tC (.int 10)) (tC (.int 18))))) (tVar 2) (tC (.int 0))) [2]), (tC (.str "at"), tC (.int 0))])
      { nx := fun _ H' => Q .non H', rt := Q } [some (.ref a), some (.ref ca), none] H2 := by
    intro ca cs H2 hca g2 sm hne hcl p hp
    have s3 : Same H2 (upd H2 p (.dK [])) := same_new hp
    have npc : ca ≠ p := fun z => by rw [z, hp] at g2; cases g2
    have g3 : upd H2 p (.dK []) ca = some (.lst (cs.map V.int)) := s3 _ _ g2
    have hHp : H p = none := by
      cases z : H p with
      | none => rfl
      | some o => have := sm _ _ z; rw [hp] at this; cases this
    generalize hH3 : upd H2 p (.dK []) = H3 at s3 g3
    have hp3 : H3 p = some (.dK []) := by rw [← hH3]; exact upd_same
    refine ⟨.ref ca, rfl, .ref ca, rfl, ca, rfl, ⟨_, .inl (.inl g3)⟩, fun D hD => ?_⟩
    have nDp : D ≠ p := fun z => by rw [z, hp3] at hD; cases hD
    have nDc : D ≠ ca := fun z => by rw [z, g3] at hD; cases hD
    have hHD : H D = none := by
      cases z : H D with
      | none => rfl
      | some o => have := s3 _ _ (sm _ _ z); rw [hD] at this; cases this
    refine lc_list (xs := cs.map V.int) (fun i H4 => ∃ fs : List Int, fs.length = i ∧ H4 D = some (.lst (fs.map V.int)) ∧ Same H3 H4) ⟨[], rfl, upd_same, same_new hD⟩ (fun i H4 _ ⟨fs, _, _, s⟩ => .inl (.inl (s _ _ g3))) (fun i x H4 hx ⟨fs, hf, hd, s⟩ => ?_) fun H4 ⟨fs, hf, hd, s⟩ => ?_
    · obtain ⟨z, rfl⟩ : ∃ z, x = V.int z := by
        rw [List.getElem?_map] at hx
        cases q2 : cs[i]? with
        | none => rw [q2] at hx; cases hx
        | some z => rw [q2] at hx; exact ⟨z, (Option.some.inj hx).symm⟩
      have hi : i < cs.length := by have := get_lt' hx; simpa using this
      refine ⟨rfl, ?_⟩
      have fin : ∀ k : Int, ∃ acc, H4 D = some (HO.lst acc) ∧ acc.length < sizeLine ∧ ∃ fs : List Int, fs.length = i + 1 ∧ upd H4 D (.lst (acc ++ [V.int k])) D = some (.lst (fs.map V.int)) ∧ Same H3 (upd H4 D (.lst (acc ++ [V.int k]))) := fun k =>
        ⟨_, hd, by rw [List.length_map, hf, sizeLine_eq]; omega, fs ++ [k], by rw [List.length_append, hf]; rfl, by rw [upd_same, List.map_append]; rfl, fun b o e => by rw [upd_ne (ne_of_none e hD)]; exact s _ _ e⟩
      unfold tYes
      simp only [if_true]
      refine ⟨.int z, rfl, 10, 18, rfl, rfl, ⟨by decide, by decide, by decide⟩, z, _, rfl, rfl, _, rfl, ?_⟩
      generalize decide ((10 : Int) ^ (18 : Int).toNat ≤ z) = bb
      cases bb with
      | true => rw [if_pos rfl]; exact ⟨.int z, rfl, fin z⟩
      | false => rw [if_neg Bool.false_ne_true]; exact fin 0
    · have hlen : fs.length = cs.length := by rw [hf, List.length_map]
      have h4p : H4 p = some (.dK []) := s _ _ hp3
      refine ⟨h4p, stDict ⟨p, ca, D⟩ 0, rfl, by show 3 ≤ 15; omega, ?_⟩
      refine q ⟨p, ca, D⟩ _ hHp hca hHD (fun b o e => ?_) ⟨⟨cs, fs, 0, upd_same, ?_, ?_, hne, hlen, by omega, by omega⟩, Ne.symm nDc⟩
      · have e3 := s _ _ (s3 _ _ (sm _ _ e))
        rw [upd_ne fun z => by rw [z, hHp] at e; cases e]
        exact e3
      · show upd H4 p _ ca = _
        rw [upd_ne npc]; exact s _ _ g3
      · show upd H4 p _ D = _
        rw [upd_ne nDp]; exact hd
  -- the first row
  refine ⟨.ref a, rfl, Nat.zero_le _, fun e0 he0 => ?_⟩
  have s1 : Same H (upd H e0 (.lst [])) := same_new he0
  have hS1 := s1.seq hS
  refine ⟨.list (ns.map .int), .list [], .lst hS1 (dp_ints ns), .lst (.inl (.inl upd_same)) .nil, shaped_ints ns, by decide, _, rfl, ?_⟩
  cases ns with
  | nil =>
    refine iteF ⟨by decide, fun ca hca => ?_⟩
    have hHca : H ca = none := by
      cases z : H ca with
      | none => rfl
      | some o => have := s1 _ _ z; rw [hca] at this; cases this
    exact rest ca [0] _ hHca upd_same (s1.trans (same_new hca)) (by simp) (by simp)
  | cons n r =>
    refine iteT ⟨.ref a, rfl, a, _, rfl, .inl hS1, fun ca hca => ?_⟩
    have hHca : H ca = none := by
      cases z : H ca with
      | none => rfl
      | some o => have := s1 _ _ z; rw [hca] at this; cases this
    exact rest ca (n :: r) _ hHca upd_same (s1.trans (same_new hca)) (by simp) hl

/-! ### law -/
/-- law's promise, by what its body comes to -/
def spLaw (K : Frag) (fs : Fns) (gs : List W) (fu m : Nat) (body : SL) : Sp := fun vs H Q _ => ∃ (a : Addr) (ns : List Int), vs = [.ref a] ∧ SqL K H a (ns.map V.int) ∧ ns.length ≤ 1000 ∧ (∀ H', Q (.bl true) H') ∧
  (evSL fs gs fu body ([.no, .sh .tok] ++ List.replicate (m - 2) .no)).wp 0 (fun q _ => q.1 = .rt (W.b true)) (fun _ _ => False)
theorem env_law {T : Stc} {c : StA} {H : Hp} {N : List Str} {a : Addr} (hN : 2 ≤ N.length) (st : StOk c 0 H) : EOk T c 0 [c.sa, c.la] H [c.sa, c.la] H ((L2.start N [.ref a]).set 1 (some (.ref c.sa))) ([.no, .sh .tok] ++ List.replicate (N.length - 2) .no) where
  sub := fun _ h => h
  sO := by simp
  lO := by simp
  cB := fun z => by
    obtain ⟨_, _, _, _, q, _⟩ := st.ex
    rw [z] at q; cases q
  trk := fun b hb => by
    have hb : b = c.sa ∨ b = c.la := by simpa using hb
    rcases hb with rfl | rfl
    · exact st.sa
    · exact st.la
  st := st
  fr := Fr.refl
  len := by
    rw [List.length_set, start_len (by show 1 ≤ _; omega), List.length_append, List.length_replicate]
    show N.length = 2 + _
    omega
  sh := fun i w hw => by
    by_cases hi : i = 1
    · subst hi
      have : some (C.sh .tok) = some (C.sh w) := hw
      cases this
      refine ⟨_, List.getElem?_set_self ?_, .tok⟩
      rw [start_len (by show 1 ≤ _; omega)]
      omega
    · exfalso
      match i, hi with
      | 0, _ => cases hw
      | i + 2, _ =>
        have hw : (List.replicate (N.length - 2) C.no)[i]? = some (C.sh w) := hw
        rw [List.getElem?_replicate] at hw
        split at hw <;> cases hw
  ow := fun i w hw => by
    exfalso
    match i with
    | 0 => cases hw
    | 1 => cases hw
    | i + 2 =>
      have hw : (List.replicate (N.length - 2) C.no)[i]? = some (C.ow w) := hw
      rw [List.getElem?_replicate] at hw
      split at hw <;> cases hw
  inj := fun i j w w' b hw => by
    exfalso
    match i with
    | 0 => cases hw
    | 1 => cases hw
    | i + 2 =>
      have hw : (List.replicate (N.length - 2) C.no)[i]? = some (C.ow w) := hw
      rw [List.getElem?_replicate] at hw
      split at hw <;> cases hw
/-- the reading of law's body -/
theorem law_key {T : Stc} {N : List Str} {fu : Nat} {body : SL} {vs : List V} {H : Hp} {Q : VK} {E : XK} (hN : 2 ≤ N.length) (h : spLaw T.K T.fs T.gs fu N.length body vs H Q E) :
    tSeq (tAsg (tCG (spBegin T.K) E (tCons (tVar 0) tNil)) (gName 1)) (rdSL T E fu body) { nx := fun _ H' => Q .non H', rt := Q } (L2.start N vs) H := by
  obtain ⟨a, ns, rfl, hS, hl, hq, q⟩ := h
  refine ⟨.ref a, ?_, a, ns, rfl, hS, hl, fun c H' n1 n2 n3 sm st => ?_⟩
  · unfold L2.start
    rfl
  · refine ⟨c, 0, [c.sa, c.la], H', [c.sa, c.la], _, env_law hN st, M.wp_mono (fun qq n e => ?_) (fun _ _ z => z.elim) q⟩
    obtain ⟨fl, r⟩ := qq
    have e : fl = .rt (W.b true) := e
    subst e
    intro O' H2 σ' env _ v rv
    have := rv.booli
    subst this
    exact hq H2
end DS

set_option Elab.async false
set_option linter.all false
set_option autoImplicit false
set_option maxRecDepth 100000
set_option maxHeartbeats 4000000
/-! DS27: from law's promise to the row. -/
namespace DS
open PySem PySem.Spec PySem.SeqAt PyProof.Rows L2
/-- law called on a script, in a heap where the script alone is tracked -/
theorem run_tracked {P : Program} {w : World} {K : Frag} {mg mb : Str → Option Value} {k : Nat} {fa a : Addr} {fd : FuncData} {x : Str} {sp : Sp} {s : Shared} {vs : List Value} {H : Hp}
    (kin : K.In s.heap) (glob : s.heap.Ns mainGlobals mg) (blt : s.heap.Ns builtinsNs mb) (boot : ∀ y : Str, y ≠ "__name__" → mb y = bootBuiltins y) (nolim : s.heap.NoLimit) (nogens : s.gens = #[])
    (at_a : s.heap.get? a = some { cls := .type "list", data := .seq vs.toArray }) (room : Room k callerA)
    (F : ∀ base : Heap, K.In base → base.Ns mainGlobals mg → FnG P w K mg base k fa fd [x] sp) (bind : ∀ (s : Shared) (u : Value), BindsTo s fd ⟨[u], []⟩ [(x, u)])
    (only : ∀ b, H b = none ∨ ∃ o xs, H b = some (.frz o (.lst xs))) (ok : HOk P w H s.heap) (isA : ∀ b, H b ≠ none → b = a) (notK : H a ≠ none → K.lookup a = none)
    (want : sp [.ref a] H (fun v _ => v = .bl true) fun _ _ _ => False) :
    codeAny (model P w) callerA (.call (.ref fa) ⟨[.ref a], []⟩) (fun r s' => r = .ok (.ret (.bool true)) ∧ OldK s.heap s'.heap ∧ s'.os = s.os ∧ AllBare s'.gens) s := by
  have free : ∀ b, b ≠ a → H b = none := by
    intro b hb
    cases hc : H b with
    | none => rfl
    | some u => exact absurd (isA b (by simp [hc])) hb
  have notDict : ∀ {b : Addr} {o : Obj} {es : Array DictEntry} {n : Nat}, s.heap.get? b = some o → o.data = .dict es n → H b = none := by
    intro b o es n h1 h2
    apply free
    rintro rfl
    have := h1.symm.trans at_a
    cases this
    cases h2
  have inBase : ∀ {b : Addr} {m : Str → Option Value}, s.heap.Ns b m → (hidT s.heap H).Ns b m := by
    rintro b m ⟨o, es, n, h1, h2, h3⟩
    exact ⟨o, es, n, hidT_get h1 (notDict h1 h2), h2, h3⟩
  have kBase : K.In (hidT s.heap H) := by
    intro b o h1
    apply hidT_get (kin b o h1)
    cases hc : H b with
    | none => rfl
    | some u =>
      have hb := isA b (by simp [hc])
      subst hb
      have := notK (by simp [hc])
      rw [h1] at this
      cases this
  obtain ⟨mc, l1, l2⟩ := nolim
  have env : Env0 P w K mg (hidT s.heap H) callerA [] s H := by
    constructor
    · rfl
    · exact ⟨kBase, inBase glob, ⟨mb, inBase blt, boot⟩, mc, inBase l1, l2⟩
    · exact fun b o h => of_hidT h
    · exact Nat.le_of_eq (hidT_size s.heap H)
    · trivial
    · intro b hb
      simp [frs] at hb
    · exact ok
    · exact AllBare.of_eq nogens
  have run := (F _ kBase (inBase glob)).run callerA [] s H ⟨[.ref a], []⟩ [.ref a] [.ref a] _ _ room rfl env (bind s (.ref a)) (.cons rfl .nil) want
  refine codeAny_mono run ?_
  intro r s' h
  match r, h with
  | .error e, h =>
    obtain ⟨_, _, _, _, _, _, _, _, _, _, _, _, z⟩ := h
    exact z.elim
  | .ok .next, h => exact False.elim h
  | .ok .brk, h => exact False.elim h
  | .ok .cont, h => exact False.elim h
  | .ok (.ret u), h =>
    obtain ⟨v, H', os, bare, un, ok', rv, hv⟩ := h
    have hv : v = .bl true := hv
    subst hv
    have hu : u = Value.bool true := rv
    subst hu
    refine ⟨rfl, OldK.of_keep ?_, os, bare⟩
    intro b o h1
    rcases only b with h2 | ⟨ob, xs, h2⟩
    · exact un.keep b o h1 h2 (by simp [frs]) (by simp)
    · have h3 := un.frzs b ob (.lst xs) h2
      have g1 := (ok b _ h2).1
      have g2 := (ok' b _ h3).1
      rw [h1] at g1
      cases g1
      exact g2
theorem run_law {P : Program} {w : World} {K : Frag} {mg mb : Str → Option Value} {k : Nat} {fa a : Addr} {fd : FuncData} {x : Str} {sp : Sp} {s : Shared} {vs : List Value} {ns : List Int}
    (kin : K.In s.heap) (glob : s.heap.Ns mainGlobals mg) (blt : s.heap.Ns builtinsNs mb) (boot : ∀ y : Str, y ≠ "__name__" → mb y = bootBuiltins y) (nolim : s.heap.NoLimit) (nogens : s.gens = #[])
    (at_a : s.heap.get? a = some { cls := .type "list", data := .seq vs.toArray }) (hi : IntsAre vs ns) (small : ns.length ≤ sizeLine) (room : Room k callerA)
    (F : ∀ base : Heap, K.In base → base.Ns mainGlobals mg → FnG P w K mg base k fa fd [x] sp) (bind : ∀ (s : Shared) (u : Value), BindsTo s fd ⟨[u], []⟩ [(x, u)])
    (want : ∀ H : Hp, SqL K H a (ns.map V.int) → sp [.ref a] H (fun v _ => v = .bl true) fun _ _ _ => False) :
    codeAny (model P w) callerA (.call (.ref fa) ⟨[.ref a], []⟩) (fun r s' => r = .ok (.ret (.bool true)) ∧ OldK s.heap s'.heap ∧ s'.os = s.os ∧ AllBare s'.gens) s := by
  have vi : Vals (ns.map V.int) vs := vals_ints hi
  by_cases hK : K.lookup a = none
  · -- the script is a new list: tracked as it is
    obtain ⟨H, hH⟩ : ∃ H : Hp, H = fun b => if b = a then some (.frz { cls := .type "list", data := .seq vs.toArray } (.lst (ns.map V.int))) else none := ⟨_, rfl⟩
    have onA : H a = some (.frz { cls := .type "list", data := .seq vs.toArray } (.lst (ns.map V.int))) := by rw [hH]; exact if_pos rfl
    have offA : ∀ b, b ≠ a → H b = none := fun b hb => by rw [hH]; exact if_neg hb
    refine run_tracked (H := H) kin glob blt boot nolim nogens at_a room F bind (fun b => ?_) (fun b u hu => ?_) (fun b hb => ?_) (fun _ => hK) (want H (.inl (.inr ⟨_, onA⟩)))
    · by_cases hb : b = a
      · subst hb; exact .inr ⟨_, _, onA⟩
      · exact .inl (offA b hb)
    · by_cases hb : b = a
      · subst hb
        rw [onA] at hu
        cases hu
        exact ⟨at_a, by rw [List.length_map]; exact small, vs, 0, vi, at_a⟩
      · rw [offA b hb] at hu; cases hu
    · by_cases hc : b = a
      · exact hc
      · exact absurd (offA b hc) hb
  · -- the script is one of the module's own lists
    obtain ⟨o, ho⟩ := Option.ne_none_iff_exists'.mp hK
    have h1 := kin a o ho
    rw [at_a] at h1
    cases h1
    refine run_tracked (H := fun _ => none) kin glob blt boot nolim nogens at_a room F bind (fun b => .inl rfl) (fun b u hu => ?_) (fun b hb => absurd rfl hb) (fun hb => absurd rfl hb) (want _ (.inr ⟨_, vs.toArray, 0, ho, rfl, rfl, rfl, ?_, by simpa using vi⟩))
    · cases hu
    · rw [List.size_toArray, ← vi.length, List.length_map]
      exact small
/-- the row, from law's promise -/
theorem row_of {l : PySem.W.OpenLaw} {n k : Nat} {q : Program} {loose : List Str} {XP : (Str → Option Value) → Heap → Prop} {YP : World → Heap → Prop} {d : DefRec} {K : Params → Frag} {x : Str} {sp : World → Sp}
    (hn : l.most = some n) (hn2 : n ≤ sizeLine) (hdf : d.params.defaults = []) (room : Room k callerA) (hY : ∀ (w : World) (h : Heap), YP w h → (K w.params).In h)
    (F : ∀ (w : World) (mg : Str → Option Value) (fa : Addr) (h : Heap), (K w.params).In h → h.Ns mainGlobals mg → mg d.name = some (.ref fa) →
      ∃ fd : FuncData, (∀ (s : Shared) (u : Value), BindsTo s fd ⟨[u], []⟩ [(x, u)]) ∧ ∀ base : Heap, (K w.params).In base → base.Ns mainGlobals mg → FnG l.prog w (K w.params) mg base k fa fd [x] (sp w))
    (want : ∀ (w : World) (H : Hp) (a : Addr) (ns : List Int), ns.length ≤ n → SqL (K w.params) H a (ns.map V.int) → sp w [.ref a] H (fun v _ => v = .bl true) fun _ _ _ => False) :
    PySem.W.WalkO q loose XP YP l.row.toRowW d [] (fun f vs => PySem.call f vs) :=
  Att.attach_call hn hdf fun w s₀ s₁ mg mb fa o pm cd doc a vs ns G Y ho hd hcd hmg hobj hints hlen hg => by
    have kin := hY w _ Y
    obtain ⟨fd, bind, prom⟩ := F w mg fa _ kin G.T.g hmg
    exact run_law kin G.T.g G.T.b G.T.builtins G.T.nolimit hg hobj hints (Nat.le_trans hlen hn2) room prom bind fun H hS => want w H a ns hlen hS
end DS

set_option Elab.async false
set_option linter.all false
set_option autoImplicit false
set_option maxRecDepth 100000
set_option maxHeartbeats 4000000
/-! DS28: defs walked by hand; what the top wrote. -/
namespace DS
open PySem PySem.Spec PySem.SeqAt PyProof.Rows L2
/-- a def as the top wrote it -/
structure DefAt (K : Frag) (x : Str) (st : Stmt) (f : Addr) : Prop where
  ex : ∃ (oc : Value) (od : Option Addr) (kV doc pm : Value) (an : Option Addr) (cdv ct : Value) (osl : Array (Option Value)), PySem.W.nsIn K mainGlobals x = some (some (.ref f)) ∧
    K.lookup f = some ⟨oc, od, .func (PySem.W.fnOf x x (defArgs st) (defBody st) (defScope st) .none kV doc pm an cdv ct), osl⟩ ∧ PySem.W.codeIn K cdv x = true ∧ PySem.W.keepIn K (.ref f) = true
theorem DefAt.fn {K : Frag} {x : Str} {st : Stmt} {f : Addr} (d : DefAt K x st f) : ∃ fd, L2.Fun K x x st f fd ∧ PySem.W.nsIn K mainGlobals x = some (some (.ref f)) := by
  obtain ⟨oc, od, kV, doc, pm, an, cdv, ct, osl, h1, h2, h3, h4⟩ := d.ex
  exact ⟨_, fun_mk h2 h3 h4, h1⟩
section
variable {g : Gnd} {names : List Str} {fs : Fns} {k : Nat} {kw : List (Nat × Nat × List Str × List Nat)}
/-- a def by hand -/
theorem tok_hand (tk : TOk (mkT g names fs k) kw) {x : Str} {F : List W → M W} {n : Nat} {fd : FuncData} {ps N : List Str} {st : Stmt} {t : XK → TS} (d : DefK g fs.length x ps st fd) (S : FnScope N ps (defScope st)) (hp : ps.length = n)
    (hps : ∀ (cdv : Value) (A : Around) (outer : List PySem.Env) (s : Shared) (H : Hp) (E : XK), Room k (A.deeper (envOfC x (defScope st) s.heap.objs.size (g.fa fs.length) cdv)) → A.guards = some [] →
      PSs (cxOf (L2.CX g.P g.w) g.P g.w g.K g.mg g.base N x (defScope st) (g.fa fs.length) cdv A outer s H E) (defBody st) (t E))
    (key : ∀ {vs : List V} {H : Hp} {Q : VK} {E : XK}, spM (mkT g names fs k) n F vs H Q E → t E { nx := fun _ H' => Q .non H', rt := Q } (L2.start N vs) H)
    (ha : ∀ ws N Q E, (F ws).wp N Q E → ws.length = n) (hkw : ∀ q ∈ kw, q.1 = fs.length → KwOk g.K fd ps q.2.1 q.2.2.1 q.2.2.2) : TOk (mkT g (names ++ [x]) (fs ++ [F]) (k + 1)) kw := by
  refine tok_step tk d hp (Nat.le_succ k) ?_ ha hkw
  exact fnG_of d.fn S (fun vs H Q E h => by rw [hp]; exact h.1) fun cdv A outer s H vs Q E room gd h => ⟨_, hps cdv A outer s H E room gd, key h⟩
theorem tok_mono {k' : Nat} (tk : TOk (mkT g names fs k) kw) (h : k ≤ k') : TOk (mkT g names fs k') kw where
  fns := fun i x hx => by
    obtain ⟨F, n, fd, ps, h1, h2, h3, h4, h5, h6, h7, h8⟩ := tk.fns i x hx
    exact ⟨F, n, fd, ps, h1, h2, h3, h4, h5, h6.mono h, h7, h8⟩
  gls := tk.gls
  bn := tk.bn
  ln := tk.ln
/-- law's promise -/
theorem law_fnG (tk : TOk (mkT g names fs k) kw) {ct : Ct} {fB fL : Addr} {fdB fdL : FuncData} {NB : List Str} {x y : Str} {stB stL : Stmt} {fu : Nat} {body : SL} (eB : L2.Fun g.K "_law_begin" "_law_begin" stB fB fdB) (sB : FnScope NB [y] (defScope stB)) (hN : NB.length = 3)
    (pB : ∀ (cdv : Value) (A : Around) (outer : List PySem.Env) (s : Shared) (H : Hp) (E : XK), Room k (A.deeper (envOfC "_law_begin" (defScope stB) s.heap.objs.size fB cdv)) → A.guards = some [] →
      PSs (cxOf (L2.CX g.P g.w) g.P g.w g.K g.mg g.base NB "_law_begin" (defScope stB) fB cdv A outer s H E) (defBody stB) (beginTS g.K))
    (eL : L2.Fun g.K "law" "law" stL fL fdL) (sL : FnScope ct.N [x] (defScope stL)) (h2 : 2 ≤ ct.N.length) (hc : ct.fn = names ∧ ct.gn = g.gn ∧ ct.kw = kw) (chk : chkSL ct (defScope stL) (fun _ => true) body (defBody stL).tail = true)
    (pL : FnG g.P g.w g.K g.mg g.base (k + 1) fB fdB [y] (spBegin g.K) → ∀ (cdv : Value) (A : Around) (outer : List PySem.Env) (s : Shared) (H : Hp) (E : XK) (t : TS), Room (k + 1) (A.deeper (envOfC "law" (defScope stL) s.heap.objs.size fL cdv)) → A.guards = some [] →
      XSt (mkT g names fs (k + 1)) ct.N (defScope stL) (fun _ => true) E (cxOf (L2.CX g.P g.w) g.P g.w g.K g.mg g.base ct.N "law" (defScope stL) fL cdv A outer s H E) →
      PSs (cxOf (L2.CX g.P g.w) g.P g.w g.K g.mg g.base ct.N "law" (defScope stL) fL cdv A outer s H E) (defBody stL).tail t →
      PSs (cxOf (L2.CX g.P g.w) g.P g.w g.K g.mg g.base ct.N "law" (defScope stL) fL cdv A outer s H E) (defBody stL) (tSeq (tAsg (tCG (spBegin g.K) E (tCons (tVar 0) tNil)) (gName 1)) t)) :
    FnG g.P g.w g.K g.mg g.base (k + 2) fL fdL [x] (spLaw g.K fs g.gs fu ct.N.length body) := by
  have GB : FnG g.P g.w g.K g.mg g.base (k + 1) fB fdB [y] (spBegin g.K) := fnG_of eB sB (fun vs H Q E h => by obtain ⟨a, ns, rfl, _⟩ := h; rfl) fun cdv A outer s H vs Q E room gd h => by
    refine ⟨_, pB cdv A outer s H E room gd, ?_⟩
    have r := begin_key h
    obtain ⟨a, ns, rfl, _⟩ := h
    have e : L2.start NB [V.ref a] = L2.start ["s", "c", "i"] [V.ref a] := by unfold L2.start; rw [hN]; rfl
    rw [e]
    exact r
  have tk1 := tok_mono tk (Nat.le_succ k)
  refine fnG_of eL sL (fun vs H Q E h => by obtain ⟨a, ns, rfl, _⟩ := h; rfl) fun cdv A outer s H vs Q E room gd h => ?_
  have xs := xst_def (T := mkT g names fs (k + 1)) (qual := "law") (f := fL) (cdv := cdv) (outer := outer) (s := s) (H := H) (E := E) sL room gd
  have hs := sSL (T := mkT g names fs (k + 1)) (ct := ct) (fu := fu) (by rw [hc.2.2]; exact tk1) hc.1 hc.2.1 xs body _ chk
  exact ⟨_, pL GB cdv A outer s H E _ room gd xs hs, law_key (T := mkT g names fs (k + 1)) h2 h⟩
end
end DS

set_option Elab.async false
set_option linter.all false
/-! PB: the program's defs in the small language, printed by gen.py. -/
namespace DS
/-- is_from: value, low, high -/
def PB_is_from : SL := (.cons (.ret (.bop true (.cons (.isi (.v 0) .int) (.cons (.not (.isi (.v 0) .bool)) (.cons (.chain .le .le (.v 1) (.v 0) (.v 2)) .nil))))) .nil)
/-- is_set: value, most, item, near, far -/
def PB_is_set (i_is_from : Nat) : SL := (.cons (.ite (.bop false (.cons (.not (.isi (.v 0) .tuple)) (.cons (.cmp .gt (.b1 .len (.comp (.n 2) (.of (.v 0)) (.cons (.not (.call i_is_from (.cons (.v 2) (.cons (.int 0) (.cons (.v 1) .nil))))) .nil) (.int 1))) (.int 0)) .nil))) (.cons (.ret (.bl false)) .nil) .nil) (.cons (.ret (.cmp .eq (.b1 .len (.comp (.t (.cons (.n 3) (.cons (.n 4) .nil))) (.zip (.v 0) (.sl (.v 0) (.cons (.int 1) .nil) .nil)) (.cons (.cmp .ge (.v 3) (.v 4)) .nil) (.int 1))) (.int 0))) .nil))
/-- is_arrow: count, value -/
def PB_is_arrow (i_is_from : Nat) : SL := (.cons (.ite (.bop false (.cons (.not (.isi (.v 1) .tuple)) (.cons (.cmp .ne (.b1 .len (.v 1)) (.int 2)) (.cons (.not (.call i_is_from (.cons (.ix (.v 1) (.int 0)) (.cons (.int 0) (.cons (.bin .sub (.v 0) (.int 1)) .nil))))) .nil)))) (.cons (.ret (.bl false)) .nil) .nil) (.cons (.ret (.call i_is_from (.cons (.ix (.v 1) (.int 1)) (.cons (.bin .add (.ix (.v 1) (.int 0)) (.int 1)) (.cons (.bin .sub (.v 0) (.int 1)) .nil))))) .nil))
/-- is_cause: count, value -/
def PB_is_cause (i_is_set : Nat) : SL := (.cons (.ret (.bop true (.cons (.call i_is_set (.cons (.v 1) (.cons (.bin .sub (.v 0) (.int 1)) .nil))) (.cons (.cmp .gt (.b1 .len (.v 1)) (.int 1)) .nil)))) .nil)
/-- check_items: count, value, place, judge, at, item -/
def PB_check_items : SL := (.cons (.forr (.t (.cons (.n 4) (.cons (.n 5) .nil))) (.enum (.v 1)) (.cons (.ite (.bop false (.cons (.not (.callv 3 (.cons (.v 0) (.cons (.v 5) .nil)))) (.cons (.bop true (.cons (.cmp .gt (.v 4) (.int 0)) (.cons (.cmp .ge (.ix (.v 1) (.bin .sub (.v 4) (.int 1))) (.v 5)) .nil))) .nil))) (.cons .rse .nil) .nil) .nil)) .nil)
/-- check_drawing: value, count, arrows, causes -/
def PB_check_drawing (i_check_items i_is_cause g_MOST_CAUSES i_is_arrow i_is_from g_MOST_THINGS : Nat) : SL := (.cons (.ite (.bop false (.cons (.not (.isi (.v 0) .tuple)) (.cons (.cmp .ne (.b1 .len (.v 0)) (.int 3)) .nil))) (.cons .rse .nil) .nil) (.cons (.asg (.t (.cons (.n 1) (.cons (.n 2) (.cons (.n 3) .nil)))) (.v 0)) (.cons (.ite (.not (.call i_is_from (.cons (.v 1) (.cons (.int 1) (.cons (.gl g_MOST_THINGS) .nil))))) (.cons .rse .nil) .nil) (.cons (.ite (.not (.isi (.v 2) .tuple)) (.cons .rse .nil) .nil) (.cons (.ex (.call i_check_items (.cons (.v 1) (.cons (.v 2) (.cons (.int 1) (.cons (.fn i_is_arrow) .nil)))))) (.cons (.ite (.bop false (.cons (.not (.isi (.v 3) .tuple)) (.cons (.cmp .gt (.b1 .len (.v 3)) (.gl g_MOST_CAUSES)) .nil))) (.cons .rse .nil) .nil) (.cons (.ex (.call i_check_items (.cons (.v 1) (.cons (.v 3) (.cons (.int 2) (.cons (.fn i_is_cause) .nil)))))) (.cons (.ret (.v 0)) .nil))))))))
/-- check_thing: drawing, value -/
def PB_check_thing (i_is_from : Nat) : SL := (.cons (.ite (.not (.call i_is_from (.cons (.v 1) (.cons (.int 0) (.cons (.bin .sub (.ix (.v 0) (.int 0)) (.int 1)) .nil))))) (.cons .rse .nil) .nil) (.cons (.ret (.v 1)) .nil))
/-- check_lot: drawing, value -/
def PB_check_lot (i_is_set : Nat) : SL := (.cons (.ite (.not (.call i_is_set (.cons (.v 1) (.cons (.bin .sub (.ix (.v 0) (.int 0)) (.int 1)) .nil)))) (.cons .rse .nil) .nil) (.cons (.ret (.v 1)) .nil))
/-- parents_so: drawing, lot, thing, near, far -/
def PB_parents_so : SL := (.cons (.ret (.b1 .tuple (.comp (.t (.cons (.n 3) (.cons (.n 4) .nil))) (.of (.ix (.v 0) (.int 1))) (.cons (.bop true (.cons (.cmp .eq (.v 4) (.v 2)) (.cons (.cmp .isin (.v 3) (.v 1)) .nil))) .nil) (.v 3)))) .nil)
/-- children_so: drawing, lot, thing, near, far -/
def PB_children_so : SL := (.cons (.ret (.b1 .tuple (.comp (.t (.cons (.n 3) (.cons (.n 4) .nil))) (.of (.ix (.v 0) (.int 1))) (.cons (.bop true (.cons (.cmp .eq (.v 3) (.v 2)) (.cons (.cmp .isin (.v 4) (.v 1)) .nil))) .nil) (.v 4)))) .nil)
/-- causes_so: drawing, thing, number, cause -/
def PB_causes_so : SL := (.cons (.ret (.b1 .tuple (.comp (.t (.cons (.n 2) (.cons (.n 3) .nil))) (.enum (.ix (.v 0) (.int 2))) (.cons (.cmp .isin (.v 1) (.v 3)) .nil) (.v 2)))) .nil)
/-- linked_so: drawing, one, other, cause -/
def PB_linked_so : SL := (.cons (.ret (.cmp .gt (.b1 .len (.comp (.n 3) (.of (.ix (.v 0) (.int 2))) (.cons (.bop true (.cons (.cmp .isin (.v 1) (.v 3)) (.cons (.cmp .isin (.v 2) (.v 3)) .nil))) .nil) (.int 1))) (.int 0))) .nil)
/-- need_drawing: drawing -/
def PB_need_drawing (i_check_drawing : Nat) : SL := (.cons (.ret (.call i_check_drawing (.cons (.v 0) .nil))) .nil)
/-- need_lot: drawing, value -/
def PB_need_lot (i_check_lot i_check_drawing : Nat) : SL := (.cons (.ret (.call i_check_lot (.cons (.call i_check_drawing (.cons (.v 0) .nil)) (.cons (.v 1) .nil)))) .nil)
/-- parents_of: drawing, lot, thing -/
def PB_parents_of (i_parents_so i_check_thing i_check_lot i_check_drawing : Nat) : SL := (.cons (.ex (.call i_check_lot (.cons (.call i_check_drawing (.cons (.v 0) .nil)) (.cons (.v 1) .nil)))) (.cons (.ret (.call i_parents_so (.cons (.v 0) (.cons (.v 1) (.cons (.call i_check_thing (.cons (.v 0) (.cons (.v 2) .nil))) .nil))))) .nil))
/-- children_of: drawing, lot, thing -/
def PB_children_of (i_children_so i_check_thing i_check_lot i_check_drawing : Nat) : SL := (.cons (.ex (.call i_check_lot (.cons (.call i_check_drawing (.cons (.v 0) .nil)) (.cons (.v 1) .nil)))) (.cons (.ret (.call i_children_so (.cons (.v 0) (.cons (.v 1) (.cons (.call i_check_thing (.cons (.v 0) (.cons (.v 2) .nil))) .nil))))) .nil))
/-- causes_of: drawing, thing -/
def PB_causes_of (i_causes_so i_check_thing i_check_drawing : Nat) : SL := (.cons (.ret (.call i_causes_so (.cons (.v 0) (.cons (.call i_check_thing (.cons (.call i_check_drawing (.cons (.v 0) .nil)) (.cons (.v 1) .nil))) .nil)))) .nil)
/-- linked: drawing, one, other -/
def PB_linked (i_linked_so i_check_thing i_check_drawing : Nat) : SL := (.cons (.ex (.call i_check_thing (.cons (.call i_check_drawing (.cons (.v 0) .nil)) (.cons (.v 1) .nil)))) (.cons (.ite (.cmp .eq (.call i_check_thing (.cons (.v 0) (.cons (.v 2) .nil))) (.v 1)) (.cons .rse .nil) .nil) (.cons (.ret (.call i_linked_so (.cons (.v 0) (.cons (.v 1) (.cons (.v 2) .nil))))) .nil)))
/-- is_within: lot, some, thing -/
def PB_is_within : SL := (.cons (.ret (.cmp .eq (.b1 .len (.comp (.n 2) (.of (.v 1)) (.cons (.cmp .notin (.v 2) (.v 0)) .nil) (.int 1))) (.int 0))) .nil)
/-- check_within: drawing, lot, value -/
def PB_check_within (i_is_within i_check_lot : Nat) : SL := (.cons (.ite (.not (.call i_is_within (.cons (.v 1) (.cons (.call i_check_lot (.cons (.v 0) (.cons (.v 2) .nil))) .nil)))) (.cons .rse .nil) .nil) (.cons (.ret (.v 2)) .nil))
/-- leading_so: drawing, lot, goal, found, thing, child -/
def PB_leading_so (i_children_so : Nat) : SL := (.cons (.asg (.n 3) .dnew) (.cons (.forr (.n 4) (.rev (.v 1)) (.cons (.ite (.bop false (.cons (.cmp .isin (.v 4) (.v 2)) (.cons (.cmp .gt (.b1 .len (.comp (.n 5) (.of (.call i_children_so (.cons (.v 0) (.cons (.v 1) (.cons (.v 4) .nil))))) (.cons (.cmp .isin (.v 5) (.v 3)) .nil) (.int 1))) (.int 0)) .nil))) (.cons (.put 3 (.v 4) (.bl true)) .nil) .nil) .nil)) (.cons (.ret (.b1 .tuple (.b1 .sorted (.v 3)))) .nil)))
/-- closed_so: drawing, lot, some, thing -/
def PB_closed_so (i_is_within i_parents_so : Nat) : SL := (.cons (.ret (.cmp .eq (.b1 .len (.comp (.n 3) (.of (.v 2)) (.cons (.not (.call i_is_within (.cons (.v 2) (.cons (.call i_parents_so (.cons (.v 0) (.cons (.v 1) (.cons (.v 3) .nil)))) .nil)))) .nil) (.int 1))) (.int 0))) .nil)
/-- leading: drawing, lot, goal -/
def PB_leading (i_leading_so i_check_within i_check_lot i_check_drawing : Nat) : SL := (.cons (.ex (.call i_check_lot (.cons (.call i_check_drawing (.cons (.v 0) .nil)) (.cons (.v 1) .nil)))) (.cons (.ret (.call i_leading_so (.cons (.v 0) (.cons (.v 1) (.cons (.call i_check_within (.cons (.v 0) (.cons (.v 1) (.cons (.v 2) .nil)))) .nil))))) .nil))
/-- closed_up: drawing, lot, some -/
def PB_closed_up (i_closed_so i_check_within i_check_lot i_check_drawing : Nat) : SL := (.cons (.ex (.call i_check_lot (.cons (.call i_check_drawing (.cons (.v 0) .nil)) (.cons (.v 1) .nil)))) (.cons (.ret (.call i_closed_so (.cons (.v 0) (.cons (.v 1) (.cons (.call i_check_within (.cons (.v 0) (.cons (.v 1) (.cons (.v 2) .nil)))) .nil))))) .nil))
/-- less_so: lot, some, thing -/
def PB_less_so : SL := (.cons (.ret (.b1 .tuple (.comp (.n 2) (.of (.v 0)) (.cons (.cmp .notin (.v 2) (.v 1)) .nil) (.v 2)))) .nil)
/-- room_so: drawing, lot, thing, found, left, here, more, other -/
def PB_room_so (i_linked_so : Nat) : SL := (.cons (.par [3, 4] (.cons (.lst (.cons (.v 2) .nil)) (.cons (.lst (.cons (.v 2) .nil)) .nil))) (.cons (.whl (.cmp .gt (.b1 .len (.v 4)) (.int 0)) (.cons (.popTo 5 4) (.cons (.asg (.n 6) (.comp (.n 7) (.of (.v 1)) (.cons (.bop true (.cons (.cmp .notin (.v 7) (.v 3)) (.cons (.call i_linked_so (.cons (.v 0) (.cons (.v 5) (.cons (.v 7) .nil)))) .nil))) .nil) (.v 7))) (.cons (.ext 3 (.v 6)) (.cons (.ext 4 (.v 6)) .nil))))) (.cons (.ret (.b1 .tuple (.b1 .sorted (.v 3)))) .nil)))
/-- rooms_so: drawing, lot, found, left, room -/
def PB_rooms_so (i_less_so i_room_so : Nat) : SL := (.cons (.par [2, 3] (.cons (.lst .nil) (.cons (.v 1) .nil))) (.cons (.whl (.cmp .gt (.b1 .len (.v 3)) (.int 0)) (.cons (.asg (.n 4) (.call i_room_so (.cons (.v 0) (.cons (.v 3) (.cons (.ix (.v 3) (.int 0)) .nil))))) (.cons (.app 2 (.v 4)) (.cons (.asg (.n 3) (.call i_less_so (.cons (.v 3) (.cons (.v 4) .nil)))) .nil)))) (.cons (.ret (.b1 .tuple (.v 2))) .nil)))
/-- rooms: drawing, lot -/
def PB_rooms (i_rooms_so i_check_lot i_check_drawing : Nat) : SL := (.cons (.ret (.call i_rooms_so (.cons (.v 0) (.cons (.call i_check_lot (.cons (.call i_check_drawing (.cons (.v 0) .nil)) (.cons (.v 1) .nil))) .nil)))) .nil)
/-- every_so: drawing -/
def PB_every_so : SL := (.cons (.ret (.b1 .tuple (.b1 .listRange (.ix (.v 0) (.int 0))))) .nil)
/-- goal_of: drawing, shut, ends, free -/
def PB_goal_of (i_leading_so i_check_within i_less_so i_every_so i_check_lot i_check_drawing : Nat) : SL := (.cons (.ex (.call i_check_lot (.cons (.call i_check_drawing (.cons (.v 0) .nil)) (.cons (.v 1) .nil)))) (.cons (.asg (.n 3) (.call i_less_so (.cons (.call i_every_so (.cons (.v 0) .nil)) (.cons (.v 1) .nil)))) (.cons (.ret (.call i_leading_so (.cons (.v 0) (.cons (.v 3) (.cons (.call i_check_within (.cons (.v 0) (.cons (.v 3) (.cons (.v 2) .nil)))) .nil))))) .nil)))
/-- check_question: value, drawing, tried, put, seen, asked, place, thing -/
def PB_check_question (i_is_within i_is_set i_check_drawing : Nat) : SL := (.cons (.ite (.bop false (.cons (.not (.isi (.v 0) .tuple)) (.cons (.cmp .ne (.b1 .len (.v 0)) (.int 5)) .nil))) (.cons .rse .nil) .nil) (.cons (.asg (.t (.cons (.n 1) (.cons (.n 2) (.cons (.n 3) (.cons (.n 4) (.cons (.n 5) .nil)))))) (.v 0)) (.cons (.ex (.call i_check_drawing (.cons (.v 1) .nil))) (.cons (.forr (.n 6) (.of (.tup (.cons (.int 1) (.cons (.int 2) (.cons (.int 3) (.cons (.int 4) .nil)))))) (.cons (.ite (.bop false (.cons (.not (.call i_is_set (.cons (.ix (.v 0) (.v 6)) (.cons (.bin .sub (.ix (.v 1) (.int 0)) (.int 1)) .nil)))) (.cons (.bop true (.cons (.cmp .eq (.v 6) (.int 4)) (.cons (.cmp .eq (.b1 .len (.v 5)) (.int 0)) .nil))) .nil))) (.cons .rse .nil) .nil) .nil)) (.cons (.ite (.not (.call i_is_within (.cons (.v 3) (.cons (.v 2) .nil)))) (.cons .rse .nil) .nil) (.cons (.ite (.cmp .gt (.b1 .len (.comp (.n 7) (.of (.v 4)) (.cons (.cmp .isin (.v 7) (.v 3)) .nil) (.int 1))) (.int 0)) (.cons .rse .nil) .nil) (.cons (.ite (.cmp .gt (.b1 .len (.comp (.n 7) (.of (.v 5)) (.cons (.bop false (.cons (.cmp .isin (.v 7) (.v 3)) (.cons (.cmp .isin (.v 7) (.v 4)) .nil))) .nil) (.int 1))) (.int 0)) (.cons .rse .nil) .nil) (.cons (.ret (.v 0)) .nil))))))))
/-- goal_so: question, moved, drawing, _tried, put, seen, asked, free -/
def PB_goal_so (i_leading_so i_less_so i_every_so : Nat) : SL := (.cons (.asg (.t (.cons (.n 2) (.cons (.n 3) (.cons (.n 4) (.cons (.n 5) (.cons (.n 6) .nil)))))) (.v 0)) (.cons (.asg (.n 7) (.call i_less_so (.cons (.call i_every_so (.cons (.v 2) .nil)) (.cons (.bin .add (.v 4) (.v 1)) .nil)))) (.cons (.ret (.call i_leading_so (.cons (.v 2) (.cons (.v 7) (.cons (.bin .add (.call i_less_so (.cons (.v 5) (.cons (.v 1) .nil))) (.v 6)) .nil))))) .nil)))
/-- is_moved: question, value, thing -/
def PB_is_moved (i_is_from : Nat) : SL := (.cons (.ite (.not (.isi (.v 1) .tuple)) (.cons (.ret (.bl false)) .nil) .nil) (.cons (.ite (.cmp .gt (.b1 .len (.comp (.n 2) (.of (.v 1)) (.cons (.bop false (.cons (.not (.call i_is_from (.cons (.v 2) (.cons (.int 0) (.cons (.bin .sub (.ix (.ix (.v 0) (.int 0)) (.int 0)) (.int 1)) .nil))))) (.cons (.cmp .notin (.v 2) (.ix (.v 0) (.int 3))) .nil))) .nil) (.int 1))) (.int 0)) (.cons (.ret (.bl false)) .nil) .nil) (.cons (.ret (.cmp .eq (.b1 .lenSet (.v 1)) (.b1 .len (.v 1)))) .nil)))
/-- check_moved: question, value -/
def PB_check_moved (i_is_moved : Nat) : SL := (.cons (.ite (.not (.call i_is_moved (.cons (.v 0) (.cons (.v 1) .nil)))) (.cons .rse .nil) .nil) (.cons (.ret (.v 1)) .nil))
/-- goal: question, moved -/
def PB_goal (i_goal_so i_check_moved i_check_question : Nat) : SL := (.cons (.ex (.call i_check_question (.cons (.v 0) .nil))) (.cons (.ret (.call i_goal_so (.cons (.v 0) (.cons (.call i_check_moved (.cons (.v 0) (.cons (.v 1) .nil))) .nil)))) .nil))
/-- things_so: question -/
def PB_things_so : SL := (.cons (.ret (.b1 .tuple (.b1 .sorted (.bin .add (.bin .add (.ix (.v 0) (.int 2)) (.ix (.v 0) (.int 3))) (.ix (.v 0) (.int 4)))))) .nil)
/-- things_of: question -/
def PB_things_of (i_things_so i_check_question : Nat) : SL := (.cons (.ret (.call i_things_so (.cons (.call i_check_question (.cons (.v 0) .nil)) .nil))) .nil)
end DS

set_option Elab.async false
set_option linter.all false
/-! PBL: helping defs of the laws in the small language, printed by gen.py. -/
namespace DS
/-- PL_lot_1: state, count, odds, spot; _law_draw; k00 k11 k12 k16 k17 k18 k19 k21 k27 k28 k30 k32 k67 k75 -/
def PL_lot_1 (i1 : Nat) : SL := (.cons (.ret (.b1 .tuple (.comp (.n 3) (.rng1 (.v 1)) (.cons (.cmp .eq (.call i1 (.cons (.v 0) (.cons (.v 2) .nil))) (.int 0)) .nil) (.v 3)))) .nil)
/-- PL_drawing_1: state, low, high, count, arrows_so, causes_so_v, near, far, first; _law_draw; k06 k07 k10 k11 k12 k13 k14 k16 k17 k18 k19 k21 k27 k28 k29 k30 k31 k32 k33 k35 k36 k37 k38 k39 k41 k42 k43 k44 k45 k46 k47 k49 k50 k51 k52 k53 k54 k55 k56 k57 k58 k64 k65 k66 k67 k68 k69 k70 k72 k73 k75 k76 k77 k80 k82 k83 -/
def PL_drawing_1 (i1 : Nat) (k1 k2 k3 : Int) : SL := (.cons (.asg (.n 3) (.bin .add (.v 1) (.call i1 (.cons (.v 0) (.cons (.bin .add (.bin .sub (.v 2) (.v 1)) (.int 1)) .nil))))) (.cons (.par [4, 5] (.cons (.lst .nil) (.cons (.lst .nil) .nil))) (.cons (.forr (.n 6) (.rng1 (.v 3)) (.cons (.asg (.n 4) (.bin .add (.v 4) (.comp (.n 7) (.rng2 (.bin .add (.v 6) (.int 1)) (.v 3)) (.cons (.cmp .eq (.call i1 (.cons (.v 0) (.cons (.int k3) .nil))) (.int 0)) .nil) (.tup (.cons (.v 6) (.cons (.v 7) .nil)))))) (.cons (.asg (.n 5) (.bin .add (.v 5) (.comp (.n 7) (.rng2 (.bin .add (.v 6) (.int 1)) (.v 3)) (.cons (.cmp .eq (.call i1 (.cons (.v 0) (.cons (.int k2) .nil))) (.int 0)) .nil) (.tup (.cons (.v 6) (.cons (.v 7) .nil)))))) .nil))) (.cons (.ite (.bop true (.cons (.cmp .gt (.v 3) (.int 2)) (.cons (.cmp .eq (.call i1 (.cons (.v 0) (.cons (.int k1) .nil))) (.int 0)) .nil))) (.cons (.asg (.n 8) (.call i1 (.cons (.v 0) (.cons (.bin .sub (.v 3) (.int 2)) .nil)))) (.cons (.app 5 (.tup (.cons (.v 8) (.cons (.bin .add (.v 8) (.int 1)) (.cons (.bin .sub (.v 3) (.int 1)) .nil))))) .nil)) .nil) (.cons (.ret (.tup (.cons (.v 3) (.cons (.b1 .tuple (.v 4)) (.cons (.b1 .tuple (.b1 .sortedSet (.v 5))) .nil))))) .nil)))))
/-- PL_drawing_3: state, low, high, count, arrows_so, causes_so_v, near, far, step, first, more, spot; _law_draw; k00 k02 -/
def PL_drawing_3 (i1 : Nat) (k1 k2 k3 : Int) : SL := (.cons (.asg (.n 3) (.bin .add (.v 1) (.call i1 (.cons (.v 0) (.cons (.bin .add (.bin .sub (.v 2) (.v 1)) (.int 1)) .nil))))) (.cons (.par [4, 5] (.cons (.lst .nil) (.cons (.lst .nil) .nil))) (.cons (.forr (.n 6) (.rng1 (.v 3)) (.cons (.asg (.n 4) (.bin .add (.v 4) (.comp (.n 7) (.rng2 (.bin .add (.v 6) (.int 1)) (.v 3)) (.cons (.cmp .eq (.call i1 (.cons (.v 0) (.cons (.int k3) .nil))) (.int 0)) .nil) (.tup (.cons (.v 6) (.cons (.v 7) .nil)))))) .nil)) (.cons (.forr (.n 8) (.rng1 (.ite (.cmp .gt (.v 3) (.int 1)) (.call i1 (.cons (.v 0) (.cons (.int k1) .nil))) (.int 0))) (.cons (.asg (.n 9) (.call i1 (.cons (.v 0) (.cons (.bin .sub (.v 3) (.int 1)) .nil)))) (.cons (.asg (.n 10) (.bin .add (.lst (.cons (.v 9) .nil)) (.comp (.n 11) (.rng2 (.bin .add (.v 9) (.int 1)) (.v 3)) (.cons (.cmp .eq (.call i1 (.cons (.v 0) (.cons (.int k2) .nil))) (.int 0)) .nil) (.v 11)))) (.cons (.app 5 (.ite (.cmp .gt (.b1 .len (.v 10)) (.int 1)) (.b1 .tuple (.sl (.v 10) .nil (.cons (.int 4) .nil))) (.tup (.cons (.v 9) (.cons (.bin .sub (.v 3) (.int 1)) .nil))))) .nil)))) (.cons (.ret (.tup (.cons (.v 3) (.cons (.b1 .tuple (.v 4)) (.cons (.b1 .tuple (.b1 .sortedSet (.v 5))) .nil))))) .nil)))))
/-- PL_drawing_4: state, low, high, count, arrows_so, causes_so, near, far; _law_draw; k01 k24 -/
def PL_drawing_4 (i1 : Nat) (k1 k2 : Int) : SL := (.cons (.asg (.n 3) (.bin .add (.v 1) (.call i1 (.cons (.v 0) (.cons (.bin .add (.bin .sub (.v 2) (.v 1)) (.int 1)) .nil))))) (.cons (.par [4, 5] (.cons (.lst .nil) (.cons (.lst .nil) .nil))) (.cons (.forr (.n 6) (.rng1 (.v 3)) (.cons (.asg (.n 4) (.bin .add (.v 4) (.comp (.n 7) (.rng2 (.bin .add (.v 6) (.int 1)) (.v 3)) (.cons (.cmp .eq (.call i1 (.cons (.v 0) (.cons (.int k2) .nil))) (.int 0)) .nil) (.tup (.cons (.v 6) (.cons (.v 7) .nil)))))) (.cons (.asg (.n 5) (.bin .add (.v 5) (.comp (.n 7) (.rng2 (.bin .add (.v 6) (.int 1)) (.v 3)) (.cons (.cmp .eq (.call i1 (.cons (.v 0) (.cons (.int k1) .nil))) (.int 0)) .nil) (.tup (.cons (.v 6) (.cons (.v 7) .nil)))))) .nil))) (.cons (.ret (.tup (.cons (.v 3) (.cons (.b1 .tuple (.v 4)) (.cons (.b1 .tuple (.sl (.v 5) .nil (.cons (.int 20) .nil))) .nil))))) .nil))))
/-- PL_lots_1: lot_so, found, spot, told; ; k01 k41 k42 k43 k44 k46 k55 k56 k57 k58 -/
def PL_lots_1 : SL := (.cons (.asg (.n 1) (.lst (.cons (.tup .nil) .nil))) (.cons (.forr (.n 2) (.of (.v 0)) (.cons (.asg (.n 1) (.bin .add (.v 1) (.comp (.n 3) (.of (.v 1)) .nil (.bin .add (.v 3) (.tup (.cons (.v 2) .nil)))))) .nil)) (.cons (.ret (.v 1)) .nil)))
/-- PL_lots_2: count, found, spot, told; ; k02 k31 k32 k72 k73 k78 -/
def PL_lots_2 : SL := (.cons (.asg (.n 1) (.lst (.cons (.tup .nil) .nil))) (.cons (.forr (.n 2) (.rng1 (.v 0)) (.cons (.asg (.n 1) (.bin .add (.v 1) (.comp (.n 3) (.of (.v 1)) .nil (.bin .add (.v 3) (.tup (.cons (.v 2) .nil)))))) .nil)) (.cons (.ret (.v 1)) .nil)))
/-- PL_question_1: state, draw_so, kinds, spot, lots, kind, told, tried_so; _law_draw; k06 k07 k24 k25 k26 k27 k28 k30 k31 k32 k33 k35 k36 k37 k38 k39 k41 k42 k43 k44 k45 k46 k47 k49 k50 k51 k52 k53 k54 k55 k56 k57 k58 k64 k65 k66 k70 k72 k73 k75 k76 k80 k82 k83 -/
def PL_question_1 (i1 : Nat) (k1 k2 : Int) : SL := (.cons (.asg (.n 2) (.comp (.n 3) (.rng1 (.ix (.v 1) (.int 0))) .nil (.call i1 (.cons (.v 0) (.cons (.int k2) .nil))))) (.cons (.put 2 (.call i1 (.cons (.v 0) (.cons (.ix (.v 1) (.int 0)) .nil))) (.int 2)) (.cons (.asg (.n 4) (.comp (.n 6) (.rng1 (.int 3)) .nil (.b1 .tuple (.comp (.t (.cons (.n 3) (.cons (.n 5) .nil))) (.enum (.v 2)) (.cons (.cmp .eq (.v 5) (.v 6)) .nil) (.v 3))))) (.cons (.asg (.n 7) (.b1 .tuple (.comp (.n 3) (.of (.ix (.v 4) (.int 0))) (.cons (.cmp .eq (.call i1 (.cons (.v 0) (.cons (.int k1) .nil))) (.int 0)) .nil) (.v 3)))) (.cons (.ret (.tup (.cons (.v 1) (.cons (.v 7) (.cons (.ix (.v 4) (.int 0)) (.cons (.ix (.v 4) (.int 1)) (.cons (.ix (.v 4) (.int 2)) .nil))))))) .nil)))))
end DS

set_option Elab.async false
set_option linter.all false
set_option autoImplicit false
set_option maxRecDepth 100000
set_option maxHeartbeats 8000000
/-! k24: the text, printed by gen.py. -/
namespace DK24
open PySem PySem.Spec PyProof.Rows L2 DS
def topS (i : Nat) : Stmt := PySem.Challenge.pw_deedseen_k24_whole_things_and_goals.main.body.getD i (.Pass ⟨0, 0, 0, 0⟩)
def kws : List (Nat × Nat × List Str × List Nat) := []
def gns : List Str := ["MOST_THINGS", "MOST_CAUSES"]
def gss : List W := [.i 10, .i 20]
/-- _law_mixed -/
abbrev s0 : Stmt := topS 28
theorem sc0 : FnScope ["cell", "k"] ["cell", "k"] (defScope s0) := C8.fnScope_by (by decide +kernel)
abbrev b0 : SL := mixB
def ct0 : Ct := ⟨["cell", "k"], [], gns, kws⟩
theorem ck0 : chkSL ct0 (defScope s0) (fun _ => true) b0 (defBody s0) = true := by decide +kernel
/-- _law_draw -/
abbrev s1 : Stmt := topS 30
theorem sc1 : FnScope ["state", "limit", "at", "place", "left", "number"] ["state", "limit"] (defScope s1) := C8.fnScope_by (by decide +kernel)
/-- _law_like -/
abbrev s2 : Stmt := topS 36
theorem sc2 : FnScope ["got", "due"] ["got", "due"] (defScope s2) := C8.fnScope_by (by decide +kernel)
/-- is_from -/
abbrev s3 : Stmt := topS 8
theorem sc3 : FnScope ["value", "low", "high"] ["value", "low", "high"] (defScope s3) := C8.fnScope_by (by decide +kernel)
abbrev b3 : SL := PB_is_from
def ct3 : Ct := ⟨["value", "low", "high"], ["_law_mixed", "_law_draw", "_law_like"], gns, kws⟩
theorem ck3 : chkSL ct3 (defScope s3) (fun _ => true) b3 (defBody s3) = true := by decide +kernel
/-- is_set -/
abbrev s4 : Stmt := topS 9
theorem sc4 : FnScope ["value", "most", "item", "near", "far"] ["value", "most"] (defScope s4) := C8.fnScope_by (by decide +kernel)
abbrev b4 : SL := PB_is_set 3
def ct4 : Ct := ⟨["value", "most", "item", "near", "far"], ["_law_mixed", "_law_draw", "_law_like", "is_from"], gns, kws⟩
theorem ck4 : chkSL ct4 (defScope s4) (fun _ => true) b4 (defBody s4) = true := by decide +kernel
/-- is_arrow -/
abbrev s5 : Stmt := topS 10
theorem sc5 : FnScope ["count", "value"] ["count", "value"] (defScope s5) := C8.fnScope_by (by decide +kernel)
abbrev b5 : SL := PB_is_arrow 3
def ct5 : Ct := ⟨["count", "value"], ["_law_mixed", "_law_draw", "_law_like", "is_from", "is_set"], gns, kws⟩
theorem ck5 : chkSL ct5 (defScope s5) (fun _ => true) b5 (defBody s5) = true := by decide +kernel
/-- is_cause -/
abbrev s6 : Stmt := topS 11
theorem sc6 : FnScope ["count", "value"] ["count", "value"] (defScope s6) := C8.fnScope_by (by decide +kernel)
abbrev b6 : SL := PB_is_cause 4
def ct6 : Ct := ⟨["count", "value"], ["_law_mixed", "_law_draw", "_law_like", "is_from", "is_set", "is_arrow"], gns, kws⟩
theorem ck6 : chkSL ct6 (defScope s6) (fun _ => true) b6 (defBody s6) = true := by decide +kernel
/-- check_items -/
abbrev s7 : Stmt := topS 12
theorem sc7 : FnScope ["count", "value", "place", "judge", "at", "item"] ["count", "value", "place", "judge"] (defScope s7) := C8.fnScope_by (by decide +kernel)
abbrev b7 : SL := PB_check_items
def ct7 : Ct := ⟨["count", "value", "place", "judge", "at", "item"], ["_law_mixed", "_law_draw", "_law_like", "is_from", "is_set", "is_arrow", "is_cause"], gns, kws⟩
theorem ck7 : chkSL ct7 (defScope s7) (fun _ => true) b7 (defBody s7) = true := by decide +kernel
/-- check_drawing -/
abbrev s8 : Stmt := topS 13
theorem sc8 : FnScope ["value", "count", "arrows", "causes"] ["value"] (defScope s8) := C8.fnScope_by (by decide +kernel)
abbrev b8 : SL := PB_check_drawing 7 6 1 5 3 0
def ct8 : Ct := ⟨["value", "count", "arrows", "causes"], ["_law_mixed", "_law_draw", "_law_like", "is_from", "is_set", "is_arrow", "is_cause", "check_items"], gns, kws⟩
theorem ck8 : chkSL ct8 (defScope s8) (fun _ => true) b8 (defBody s8) = true := by decide +kernel
/-- is_within -/
abbrev s9 : Stmt := topS 14
theorem sc9 : FnScope ["lot", "some", "thing"] ["lot", "some"] (defScope s9) := C8.fnScope_by (by decide +kernel)
abbrev b9 : SL := PB_is_within
def ct9 : Ct := ⟨["lot", "some", "thing"], ["_law_mixed", "_law_draw", "_law_like", "is_from", "is_set", "is_arrow", "is_cause", "check_items", "check_drawing"], gns, kws⟩
theorem ck9 : chkSL ct9 (defScope s9) (fun _ => true) b9 (defBody s9) = true := by decide +kernel
/-- every_so -/
abbrev s10 : Stmt := topS 15
theorem sc10 : FnScope ["drawing"] ["drawing"] (defScope s10) := C8.fnScope_by (by decide +kernel)
abbrev b10 : SL := PB_every_so
def ct10 : Ct := ⟨["drawing"], ["_law_mixed", "_law_draw", "_law_like", "is_from", "is_set", "is_arrow", "is_cause", "check_items", "check_drawing", "is_within"], gns, kws⟩
theorem ck10 : chkSL ct10 (defScope s10) (fun _ => true) b10 (defBody s10) = true := by decide +kernel
/-- less_so -/
abbrev s11 : Stmt := topS 16
theorem sc11 : FnScope ["lot", "some", "thing"] ["lot", "some"] (defScope s11) := C8.fnScope_by (by decide +kernel)
abbrev b11 : SL := PB_less_so
def ct11 : Ct := ⟨["lot", "some", "thing"], ["_law_mixed", "_law_draw", "_law_like", "is_from", "is_set", "is_arrow", "is_cause", "check_items", "check_drawing", "is_within", "every_so"], gns, kws⟩
theorem ck11 : chkSL ct11 (defScope s11) (fun _ => true) b11 (defBody s11) = true := by decide +kernel
/-- children_so -/
abbrev s12 : Stmt := topS 17
theorem sc12 : FnScope ["drawing", "lot", "thing", "near", "far"] ["drawing", "lot", "thing"] (defScope s12) := C8.fnScope_by (by decide +kernel)
abbrev b12 : SL := PB_children_so
def ct12 : Ct := ⟨["drawing", "lot", "thing", "near", "far"], ["_law_mixed", "_law_draw", "_law_like", "is_from", "is_set", "is_arrow", "is_cause", "check_items", "check_drawing", "is_within", "every_so", "less_so"], gns, kws⟩
theorem ck12 : chkSL ct12 (defScope s12) (fun _ => true) b12 (defBody s12) = true := by decide +kernel
/-- leading_so -/
abbrev s13 : Stmt := topS 18
theorem sc13 : FnScope ["drawing", "lot", "goal", "found", "thing", "child"] ["drawing", "lot", "goal"] (defScope s13) := C8.fnScope_by (by decide +kernel)
abbrev b13 : SL := PB_leading_so 12
def ct13 : Ct := ⟨["drawing", "lot", "goal", "found", "thing", "child"], ["_law_mixed", "_law_draw", "_law_like", "is_from", "is_set", "is_arrow", "is_cause", "check_items", "check_drawing", "is_within", "every_so", "less_so", "children_so"], gns, kws⟩
theorem ck13 : chkSL ct13 (defScope s13) (fun _ => true) b13 (defBody s13) = true := by decide +kernel
/-- check_question -/
abbrev s14 : Stmt := topS 20
theorem sc14 : FnScope ["value", "drawing", "tried", "put", "seen", "asked", "place", "thing"] ["value"] (defScope s14) := C8.fnScope_by (by decide +kernel)
abbrev b14 : SL := PB_check_question 9 4 8
def ct14 : Ct := ⟨["value", "drawing", "tried", "put", "seen", "asked", "place", "thing"], ["_law_mixed", "_law_draw", "_law_like", "is_from", "is_set", "is_arrow", "is_cause", "check_items", "check_drawing", "is_within", "every_so", "less_so", "children_so", "leading_so"], gns, kws⟩
theorem ck14 : chkSL ct14 (defScope s14) (fun _ => true) b14 (defBody s14) = true := by decide +kernel
/-- things_so -/
abbrev s15 : Stmt := topS 21
theorem sc15 : FnScope ["question"] ["question"] (defScope s15) := C8.fnScope_by (by decide +kernel)
abbrev b15 : SL := PB_things_so
def ct15 : Ct := ⟨["question"], ["_law_mixed", "_law_draw", "_law_like", "is_from", "is_set", "is_arrow", "is_cause", "check_items", "check_drawing", "is_within", "every_so", "less_so", "children_so", "leading_so", "check_question"], gns, kws⟩
theorem ck15 : chkSL ct15 (defScope s15) (fun _ => true) b15 (defBody s15) = true := by decide +kernel
/-- is_moved -/
abbrev s16 : Stmt := topS 22
theorem sc16 : FnScope ["question", "value", "thing"] ["question", "value"] (defScope s16) := C8.fnScope_by (by decide +kernel)
abbrev b16 : SL := PB_is_moved 3
def ct16 : Ct := ⟨["question", "value", "thing"], ["_law_mixed", "_law_draw", "_law_like", "is_from", "is_set", "is_arrow", "is_cause", "check_items", "check_drawing", "is_within", "every_so", "less_so", "children_so", "leading_so", "check_question", "things_so"], gns, kws⟩
theorem ck16 : chkSL ct16 (defScope s16) (fun _ => true) b16 (defBody s16) = true := by decide +kernel
/-- check_moved -/
abbrev s17 : Stmt := topS 23
theorem sc17 : FnScope ["question", "value"] ["question", "value"] (defScope s17) := C8.fnScope_by (by decide +kernel)
abbrev b17 : SL := PB_check_moved 16
def ct17 : Ct := ⟨["question", "value"], ["_law_mixed", "_law_draw", "_law_like", "is_from", "is_set", "is_arrow", "is_cause", "check_items", "check_drawing", "is_within", "every_so", "less_so", "children_so", "leading_so", "check_question", "things_so", "is_moved"], gns, kws⟩
theorem ck17 : chkSL ct17 (defScope s17) (fun _ => true) b17 (defBody s17) = true := by decide +kernel
/-- goal_so -/
abbrev s18 : Stmt := topS 24
theorem sc18 : FnScope ["question", "moved", "drawing", "_tried", "put", "seen", "asked", "free"] ["question", "moved"] (defScope s18) := C8.fnScope_by (by decide +kernel)
abbrev b18 : SL := PB_goal_so 13 11 10
def ct18 : Ct := ⟨["question", "moved", "drawing", "_tried", "put", "seen", "asked", "free"], ["_law_mixed", "_law_draw", "_law_like", "is_from", "is_set", "is_arrow", "is_cause", "check_items", "check_drawing", "is_within", "every_so", "less_so", "children_so", "leading_so", "check_question", "things_so", "is_moved", "check_moved"], gns, kws⟩
theorem ck18 : chkSL ct18 (defScope s18) (fun _ => true) b18 (defBody s18) = true := by decide +kernel
/-- things_of -/
abbrev s19 : Stmt := topS 25
theorem sc19 : FnScope ["question"] ["question"] (defScope s19) := C8.fnScope_by (by decide +kernel)
abbrev b19 : SL := PB_things_of 15 14
def ct19 : Ct := ⟨["question"], ["_law_mixed", "_law_draw", "_law_like", "is_from", "is_set", "is_arrow", "is_cause", "check_items", "check_drawing", "is_within", "every_so", "less_so", "children_so", "leading_so", "check_question", "things_so", "is_moved", "check_moved", "goal_so"], gns, kws⟩
theorem ck19 : chkSL ct19 (defScope s19) (fun _ => true) b19 (defBody s19) = true := by decide +kernel
/-- goal -/
abbrev s20 : Stmt := topS 26
theorem sc20 : FnScope ["question", "moved"] ["question", "moved"] (defScope s20) := C8.fnScope_by (by decide +kernel)
abbrev b20 : SL := PB_goal 18 17 14
def ct20 : Ct := ⟨["question", "moved"], ["_law_mixed", "_law_draw", "_law_like", "is_from", "is_set", "is_arrow", "is_cause", "check_items", "check_drawing", "is_within", "every_so", "less_so", "children_so", "leading_so", "check_question", "things_so", "is_moved", "check_moved", "goal_so", "things_of"], gns, kws⟩
theorem ck20 : chkSL ct20 (defScope s20) (fun _ => true) b20 (defBody s20) = true := by decide +kernel
/-- _law_drawing -/
abbrev s21 : Stmt := topS 31
theorem sc21 : FnScope ["state", "low", "high", "count", "arrows_so", "causes_so", "near", "far"] ["state", "low", "high"] (defScope s21) := C8.fnScope_by (by decide +kernel)
abbrev b21 : SL := PL_drawing_4 1 6 2
def ct21 : Ct := ⟨["state", "low", "high", "count", "arrows_so", "causes_so", "near", "far"], ["_law_mixed", "_law_draw", "_law_like", "is_from", "is_set", "is_arrow", "is_cause", "check_items", "check_drawing", "is_within", "every_so", "less_so", "children_so", "leading_so", "check_question", "things_so", "is_moved", "check_moved", "goal_so", "things_of", "goal"], gns, kws⟩
theorem ck21 : chkSL ct21 (defScope s21) (fun _ => true) b21 (defBody s21) = true := by decide +kernel
/-- _law_question -/
abbrev s22 : Stmt := topS 32
theorem sc22 : FnScope ["state", "draw_so", "kinds", "spot", "lots", "kind", "told", "tried_so"] ["state", "draw_so"] (defScope s22) := C8.fnScope_by (by decide +kernel)
abbrev b22 : SL := PL_question_1 1 4 4
def ct22 : Ct := ⟨["state", "draw_so", "kinds", "spot", "lots", "kind", "told", "tried_so"], ["_law_mixed", "_law_draw", "_law_like", "is_from", "is_set", "is_arrow", "is_cause", "check_items", "check_drawing", "is_within", "every_so", "less_so", "children_so", "leading_so", "check_question", "things_so", "is_moved", "check_moved", "goal_so", "things_of", "goal", "_law_drawing"], gns, kws⟩
theorem ck22 : chkSL ct22 (defScope s22) (fun _ => true) b22 (defBody s22) = true := by decide +kernel
/-- _law_comes -/
abbrev s23 : Stmt := topS 33
theorem sc23 : FnScope ["arrows_so", "outside", "spot", "targets", "near", "far"] ["arrows_so", "outside", "spot", "targets"] (defScope s23) := C8.fnScope_by (by decide +kernel)
def b23 : SL := (.cons (.ite (.cmp .isin (.v 2) (.v 3)) (.cons (.ret (.bl true)) .nil) .nil) (.cons (.forr (.t (.cons (.n 4) (.cons (.n 5) .nil))) (.of (.v 0)) (.cons (.ite (.bop true (.cons (.cmp .eq (.v 4) (.v 2)) (.cons (.cmp .isin (.v 5) (.v 1)) (.cons (.call 23 (.cons (.v 0) (.cons (.v 1) (.cons (.v 5) (.cons (.v 3) .nil))))) .nil)))) (.cons (.ret (.bl true)) .nil) .nil) .nil)) (.cons (.ret (.bl false)) .nil)))
def ct23 : Ct := ⟨["arrows_so", "outside", "spot", "targets", "near", "far"], ["_law_mixed", "_law_draw", "_law_like", "is_from", "is_set", "is_arrow", "is_cause", "check_items", "check_drawing", "is_within", "every_so", "less_so", "children_so", "leading_so", "check_question", "things_so", "is_moved", "check_moved", "goal_so", "things_of", "goal", "_law_drawing", "_law_question", "_law_comes"], gns, kws⟩
theorem ck23 : chkSL ct23 (defScope s23) (fun _ => true) b23 (defBody s23) = true := by decide +kernel
/-- _law_due -/
abbrev s24 : Stmt := topS 34
theorem sc24 : FnScope ["asked_so", "told", "draw_so", "tried_so", "set_so", "seen_so", "targets", "outside", "spot"] ["asked_so", "told"] (defScope s24) := C8.fnScope_by (by decide +kernel)
def b24 : SL := (.cons (.asg (.t (.cons (.n 2) (.cons (.n 3) (.cons (.n 4) (.cons (.n 5) (.cons (.n 6) .nil)))))) (.v 0)) (.cons (.asg (.n 7) (.comp (.n 8) (.rng1 (.ix (.v 2) (.int 0))) (.cons (.bop true (.cons (.cmp .notin (.v 8) (.v 4)) (.cons (.cmp .notin (.v 8) (.v 1)) .nil))) .nil) (.v 8))) (.cons (.asg (.n 6) (.bin .add (.v 6) (.b1 .tuple (.comp (.n 8) (.of (.v 5)) (.cons (.cmp .notin (.v 8) (.v 1)) .nil) (.v 8))))) (.cons (.ret (.b1 .tuple (.comp (.n 8) (.of (.v 7)) (.cons (.call 23 (.cons (.ix (.v 2) (.int 1)) (.cons (.v 7) (.cons (.v 8) (.cons (.v 6) .nil))))) .nil) (.v 8)))) .nil))))
def ct24 : Ct := ⟨["asked_so", "told", "draw_so", "tried_so", "set_so", "seen_so", "targets", "outside", "spot"], ["_law_mixed", "_law_draw", "_law_like", "is_from", "is_set", "is_arrow", "is_cause", "check_items", "check_drawing", "is_within", "every_so", "less_so", "children_so", "leading_so", "check_question", "things_so", "is_moved", "check_moved", "goal_so", "things_of", "goal", "_law_drawing", "_law_question", "_law_comes"], gns, kws⟩
theorem ck24 : chkSL ct24 (defScope s24) (fun _ => true) b24 (defBody s24) = true := by decide +kernel
/-- _law_moves -/
abbrev s25 : Stmt := topS 35
theorem sc25 : FnScope ["seen_so", "found", "last", "step", "more", "told", "spot"] ["seen_so"] (defScope s25) := C8.fnScope_by (by decide +kernel)
def b25 : SL := (.cons (.par [1, 2] (.cons (.lst (.cons (.tup .nil) .nil)) (.cons (.lst (.cons (.tup .nil) .nil)) .nil))) (.cons (.forr (.n 3) (.rng1 (.int 3)) (.cons (.asg (.n 4) (.lst .nil)) (.cons (.forr (.n 5) (.of (.v 2)) (.cons (.asg (.n 4) (.bin .add (.v 4) (.comp (.n 6) (.of (.sl (.v 0) .nil (.cons (.int 4) .nil))) (.cons (.cmp .notin (.v 6) (.v 5)) .nil) (.bin .add (.v 5) (.tup (.cons (.v 6) .nil)))))) .nil)) (.cons (.par [1, 2] (.cons (.bin .add (.v 1) (.v 4)) (.cons (.v 4) .nil))) .nil)))) (.cons (.ret (.v 1)) .nil)))
def ct25 : Ct := ⟨["seen_so", "found", "last", "step", "more", "told", "spot"], ((["_law_mixed", "_law_draw", "_law_like", "is_from", "is_set", "is_arrow", "is_cause", "check_items", "check_drawing", "is_within", "every_so", "less_so", "children_so", "leading_so", "check_question", "things_so", "is_moved", "check_moved", "goal_so", "things_of", "goal", "_law_drawing", "_law_question", "_law_comes"] : List Str) ++ (["_law_due"] : List Str)), gns, kws⟩
theorem ck25 : chkSL ct25 (defScope s25) (fun _ => true) b25 (defBody s25) = true := by decide +kernel
/-- _law_right -/
abbrev s26 : Stmt := topS 37
theorem sc26 : FnScope ["asked_so", "draw_so", "tried_so", "set_so", "seen_so", "targets", "whole", "told", "due", "spot", "near", "far"] ["asked_so"] (defScope s26) := C8.fnScope_by (by decide +kernel)
def b26 : SL := (.cons (.asg (.t (.cons (.n 1) (.cons (.n 2) (.cons (.n 3) (.cons (.n 4) (.cons (.n 5) .nil)))))) (.v 0)) (.cons (.ite (.not (.call 2 (.cons (.call 19 (.cons (.v 0) .nil)) (.cons (.b1 .tuple (.b1 .sorted (.bin .add (.bin .add (.v 3) (.v 4)) (.v 5)))) .nil)))) (.cons (.ret (.bl false)) .nil) .nil) (.cons (.asg (.n 6) (.call 24 (.cons (.v 0) (.cons (.tup .nil) .nil)))) (.cons (.forr (.n 7) (.of (.call 25 (.cons (.v 4) .nil))) (.cons (.asg (.n 8) (.call 20 (.cons (.v 0) (.cons (.v 7) .nil)))) (.cons (.ite (.not (.call 2 (.cons (.v 8) (.cons (.call 24 (.cons (.v 0) (.cons (.v 7) .nil))) .nil)))) (.cons (.ret (.bl false)) .nil) .nil) (.cons (.ite (.cmp .ne (.comp (.n 9) (.of (.v 8)) (.cons (.bop false (.cons (.cmp .notin (.v 9) (.v 6)) (.cons (.cmp .isin (.v 9) (.v 3)) (.cons (.cmp .isin (.v 9) (.v 7)) .nil)))) .nil) (.int 1)) (.lst .nil)) (.cons (.ret (.bl false)) .nil) .nil) (.cons (.forr (.t (.cons (.n 10) (.cons (.n 11) .nil))) (.of (.ix (.v 1) (.int 1))) (.cons (.ite (.bop true (.cons (.cmp .isin (.v 11) (.v 8)) (.cons (.cmp .notin (.v 10) (.v 8)) (.cons (.cmp .notin (.v 10) (.v 3)) (.cons (.cmp .notin (.v 10) (.v 7)) .nil))))) (.cons (.ret (.bl false)) .nil) .nil) .nil)) (.cons (.ite (.cmp .ne (.comp (.n 9) (.of (.v 5)) (.cons (.cmp .notin (.v 9) (.v 8)) .nil) (.int 1)) (.lst .nil)) (.cons (.ret (.bl false)) .nil) .nil) .nil)))))) (.cons (.ret (.bl true)) .nil)))))
def ct26 : Ct := ⟨["asked_so", "draw_so", "tried_so", "set_so", "seen_so", "targets", "whole", "told", "due", "spot", "near", "far"], ((["_law_mixed", "_law_draw", "_law_like", "is_from", "is_set", "is_arrow", "is_cause", "check_items", "check_drawing", "is_within", "every_so", "less_so", "children_so", "leading_so", "check_question", "things_so", "is_moved", "check_moved", "goal_so", "things_of", "goal", "_law_drawing", "_law_question", "_law_comes"] : List Str) ++ (["_law_due", "_law_moves"] : List Str)), gns, kws⟩
theorem ck26 : chkSL ct26 (defScope s26) (fun _ => true) b26 (defBody s26) = true := by decide +kernel
/-- _law_begin -/
abbrev sB : Stmt := topS 29
theorem scB : FnScope ["script", "cells_so", "cell"] ["script"] (defScope sB) := C8.fnScope_by (by decide +kernel)
/-- law -/
abbrev sL : Stmt := topS 38
theorem scL : FnScope ["script", "state", "turn", "told", "got"] ["script"] (defScope sL) := C8.fnScope_by (by decide +kernel)
def bL : SL := (.cons (.forr (.n 2) (.rng1 (.int 5)) (.cons (.ite (.not (.call 26 (.cons (.call 22 (.cons (.v 1) (.cons (.call 21 (.cons (.v 1) (.cons (.int 1) (.cons (.int 8) .nil)))) .nil))) .nil))) (.cons (.ret (.bl false)) .nil) .nil) .nil)) (.cons (.asg (.n 3) (.tup (.cons (.tup (.cons (.int 4) (.cons (.tup (.cons (.tup (.cons (.int 0) (.cons (.int 1) .nil))) (.cons (.tup (.cons (.int 0) (.cons (.int 3) .nil))) (.cons (.tup (.cons (.int 1) (.cons (.int 2) .nil))) .nil)))) (.cons (.tup .nil) .nil)))) (.cons (.tup .nil) (.cons (.tup .nil) (.cons (.tup (.cons (.int 1) (.cons (.int 3) .nil))) (.cons (.tup (.cons (.int 2) .nil)) .nil))))))) (.cons (.asg (.n 4) (.lst (.cons (.call 20 (.cons (.v 3) (.cons (.tup .nil) .nil))) (.cons (.call 20 (.cons (.v 3) (.cons (.tup (.cons (.int 1) .nil)) .nil))) (.cons (.call 20 (.cons (.v 3) (.cons (.tup (.cons (.int 3) .nil)) .nil))) (.cons (.call 20 (.cons (.v 3) (.cons (.tup (.cons (.int 3) (.cons (.int 1) .nil))) .nil))) .nil)))))) (.cons (.ret (.call 2 (.cons (.v 4) (.cons (.lst (.cons (.tup (.cons (.int 0) (.cons (.int 1) (.cons (.int 2) (.cons (.int 3) .nil))))) (.cons (.tup (.cons (.int 0) (.cons (.int 2) (.cons (.int 3) .nil)))) (.cons (.tup (.cons (.int 0) (.cons (.int 1) (.cons (.int 2) .nil)))) (.cons (.tup (.cons (.int 2) .nil)) .nil))))) .nil)))) .nil))))
def ctL : Ct := ⟨["script", "state", "turn", "told", "got"], ((["_law_mixed", "_law_draw", "_law_like", "is_from", "is_set", "is_arrow", "is_cause", "check_items", "check_drawing", "is_within", "every_so", "less_so", "children_so", "leading_so", "check_question", "things_so", "is_moved", "check_moved", "goal_so", "things_of", "goal", "_law_drawing", "_law_question", "_law_comes"] : List Str) ++ (["_law_due", "_law_moves", "_law_right"] : List Str)), gns, kws⟩
theorem ckL : chkSL ctL (defScope sL) (fun _ => true) bL (defBody sL).tail = true := by decide +kernel
def F0 : List W → M W := evD [] gss 0 2 2 mixB
def fs1 : Fns := [] ++ [F0]
abbrev F1 : List W → M W := drawF
def fs2 : Fns := fs1 ++ [F1]
abbrev F2 : List W → M W := likeF
def fs3 : Fns := fs2 ++ [F2]
def F3 : List W → M W := evD fs3 gss 200 3 3 b3
def fs4 : Fns := fs3 ++ [F3]
def F4 : List W → M W := evD fs4 gss 200 5 2 b4
def fs5 : Fns := fs4 ++ [F4]
def F5 : List W → M W := evD fs5 gss 200 2 2 b5
def fs6 : Fns := fs5 ++ [F5]
def F6 : List W → M W := evD fs6 gss 200 2 2 b6
def fs7 : Fns := fs6 ++ [F6]
def F7 : List W → M W := evD fs7 gss 200 6 4 b7
def fs8 : Fns := fs7 ++ [F7]
def F8 : List W → M W := evD fs8 gss 200 4 1 b8
def fs9 : Fns := fs8 ++ [F8]
def F9 : List W → M W := evD fs9 gss 200 3 2 b9
def fs10 : Fns := fs9 ++ [F9]
def F10 : List W → M W := evD fs10 gss 200 1 1 b10
def fs11 : Fns := fs10 ++ [F10]
def F11 : List W → M W := evD fs11 gss 200 3 2 b11
def fs12 : Fns := fs11 ++ [F11]
def F12 : List W → M W := evD fs12 gss 200 5 3 b12
def fs13 : Fns := fs12 ++ [F12]
def F13 : List W → M W := evD fs13 gss 200 6 3 b13
def fs14 : Fns := fs13 ++ [F13]
def F14 : List W → M W := evD fs14 gss 200 8 1 b14
def fs15 : Fns := fs14 ++ [F14]
def F15 : List W → M W := evD fs15 gss 200 1 1 b15
def fs16 : Fns := fs15 ++ [F15]
def F16 : List W → M W := evD fs16 gss 200 3 2 b16
def fs17 : Fns := fs16 ++ [F16]
def F17 : List W → M W := evD fs17 gss 200 2 2 b17
def fs18 : Fns := fs17 ++ [F17]
def F18 : List W → M W := evD fs18 gss 200 8 2 b18
def fs19 : Fns := fs18 ++ [F18]
def F19 : List W → M W := evD fs19 gss 200 1 1 b19
def fs20 : Fns := fs19 ++ [F19]
def F20 : List W → M W := evD fs20 gss 200 2 2 b20
def fs21 : Fns := fs20 ++ [F20]
def F21 : List W → M W := evD fs21 gss 200 8 3 b21
def fs22 : Fns := fs21 ++ [F21]
def F22 : List W → M W := evD fs22 gss 200 8 2 b22
def fs23 : Fns := fs22 ++ [F22]
def F23 : List W → M W := evR fs23 gss 200 6 4 b23 20
def fs24 : Fns := fs23 ++ [F23]
def F24 : List W → M W := evD fs24 gss 200 9 2 b24
def fs25 : Fns := fs24 ++ [F24]
def F25 : List W → M W := evD fs25 gss 200 7 1 b25
def fs26 : Fns := fs25 ++ [F25]
def F26 : List W → M W := evD fs26 gss 200 12 1 b26
def fs27 : Fns := fs26 ++ [F26]
def nm0 : List Str := []
def nm1 : List Str := nm0 ++ [("_law_mixed" : Str)]
def nm2 : List Str := nm1 ++ [("_law_draw" : Str)]
def nm3 : List Str := nm2 ++ [("_law_like" : Str)]
def nm4 : List Str := nm3 ++ [("is_from" : Str)]
def nm5 : List Str := nm4 ++ [("is_set" : Str)]
def nm6 : List Str := nm5 ++ [("is_arrow" : Str)]
def nm7 : List Str := nm6 ++ [("is_cause" : Str)]
def nm8 : List Str := nm7 ++ [("check_items" : Str)]
def nm9 : List Str := nm8 ++ [("check_drawing" : Str)]
def nm10 : List Str := nm9 ++ [("is_within" : Str)]
def nm11 : List Str := nm10 ++ [("every_so" : Str)]
def nm12 : List Str := nm11 ++ [("less_so" : Str)]
def nm13 : List Str := nm12 ++ [("children_so" : Str)]
def nm14 : List Str := nm13 ++ [("leading_so" : Str)]
def nm15 : List Str := nm14 ++ [("check_question" : Str)]
def nm16 : List Str := nm15 ++ [("things_so" : Str)]
def nm17 : List Str := nm16 ++ [("is_moved" : Str)]
def nm18 : List Str := nm17 ++ [("check_moved" : Str)]
def nm19 : List Str := nm18 ++ [("goal_so" : Str)]
def nm20 : List Str := nm19 ++ [("things_of" : Str)]
def nm21 : List Str := nm20 ++ [("goal" : Str)]
def nm22 : List Str := nm21 ++ [("_law_drawing" : Str)]
def nm23 : List Str := nm22 ++ [("_law_question" : Str)]
def nm24 : List Str := nm23 ++ [("_law_comes" : Str)]
def nm25 : List Str := nm24 ++ [("_law_due" : Str)]
def nm26 : List Str := nm25 ++ [("_law_moves" : Str)]
def nm27 : List Str := nm26 ++ [("_law_right" : Str)]
section
variable {T : Stc} {kw : List (Nat × Nat × List Str × List Nat)} {E : XK} {f : Addr} {cdv : Value} {A : Around} {outer : List PySem.Env} {s : Shared} {H : Hp}
abbrev CXD (T : Stc) (N : List Str) (x : Str) (st : Stmt) (f : Addr) (cdv : Value) (A : Around) (outer : List PySem.Env) (s : Shared) (H : Hp) (E : XK) : Cx := cxOf (L2.CX T.P T.w) T.P T.w T.K T.mg T.base N x (defScope st) f cdv A outer s H E
theorem draw_ps {g : Gnd} {k : Nat} (g0 : g.gs = gss) (tk : TOk (mkT g nm1 fs1 k) kw) (room : Room k (A.deeper (envOfC "_law_draw" (defScope s1) s.heap.objs.size f cdv))) (gd : A.guards = some []) :
    PSs (CXD (mkT g nm1 fs1 k) ["state", "limit", "at", "place", "left", "number"] "_law_draw" s1 f cdv A outer s H E) (defBody s1) (drawTS (mkT g nm1 fs1 k) E) := by
  have xs := xst_def (T := mkT g nm1 fs1 k) (qual := "_law_draw") (f := f) (cdv := cdv) (outer := outer) (s := s) (H := H) (E := E) sc1 room gd
  have hu : (CXD (mkT g nm1 fs1 k) ["state", "limit", "at", "place", "left", "number"] "_law_draw" s1 f cdv A outer s H E).A.units + 65 < cLine := xs.xo.hu
  have nd := (sc1).nd
  have mI : g.mg "int" = none := tk.bn _ (by decide)
  have mL : g.mg "len" = none := tk.bn _ (by decide)
  obtain ⟨F, n, fd, ps, h1, h2, h3, h4, h5, h6, h7, _⟩ := tk.fns 0 "_law_mixed" rfl
  cases h1
  subst h5
  have hn : 2 = ps.length := h7 [.i 0, .i 0] 0 (fun _ _ => True) (fun _ _ => False) (by show (evD [] gss 0 2 2 mixB [.i 0, .i 0]).wp _ _ _; rw [mix_ret (by omega) (by omega)]; trivial)
  have cm : ∀ {e1 e2 : Expr} {ta tb : TE} {p pos : Pos} (ha : PE (CXD (mkT g nm1 fs1 k) ["state", "limit", "at", "place", "left", "number"] "_law_draw" s1 f cdv A outer s H E) e1 ta) (hb : PE (CXD (mkT g nm1 fs1 k) ["state", "limit", "at", "place", "left", "number"] "_law_draw" s1 f cdv A outer s H E) e2 tb) (q1 : star e1 = false) (q2 : star e2 = false),
      PE (CXD (mkT g nm1 fs1 k) ["state", "limit", "at", "place", "left", "number"] "_law_draw" s1 f cdv A outer s H E) (.Call (.Name "_law_mixed" p) [e1, e2] [] pos) (mixS (mkT g nm1 fs1 k) E ta tb) := by
    intro e1 e2 ta tb p pos ha hb q1 q2
    have r := pe_cG (X := CXD (mkT g nm1 fs1 k) ["state", "limit", "at", "place", "left", "number"] "_law_draw" s1 f cdv A outer s H E) (x := "_law_mixed") (p := p) (pos := pos) h6 room gd rfl h2 h3 h4 xs.xo.pas (pa_cons ha (pa_cons hb pa_nil (star_each q2)) (star_each q1)) (by decide) (star_each q1) (star_any fun e he => by
      have : e = e2 := by simpa using he
      rw [this]; exact q2)
    rw [← hn] at r
    unfold mixS
    show PE _ _ (tCG (spM (mkT g nm1 fs1 k) 2 (evD [] g.gs 0 2 2 mixB)) E _)
    rw [g0]
    exact r
  have dg : ∀ {z : Str} {p1 p2 p3 : Pos} {j : Nat}, PE (CXD (mkT g nm1 fs1 k) ["state", "limit", "at", "place", "left", "number"] "_law_draw" s1 f cdv A outer s H E) (.Subscript (.Name "state" p1) (.Constant (.str z) j p2) p3) (stGet z) := fun {z p1 p2 p3 j} => pe_dget (by omega) (pv 0) pe_str (fun _ _ => rfl)
  refine pss_cons (ps_set (i := 2) nd rfl (.inl rfl) dg) ?_
  refine pss_cons (ps_dput (by omega) (pv 0) pe_str (pe_op op_add (pv 2) pe_int) rfl) ?_
  refine pss_cons (ps_set (i := 3) nd rfl (.inl rfl) (pe_op op_mod (pe_callTy call_int1 rfl mI (by decide +kernel) (pa_cons (pv 2) pa_nil)) (pe_callB call_len_seq rfl mL (by decide +kernel) (pa_cons dg pa_nil)))) ?_
  refine pss_cons (ps_set (i := 4) nd rfl (.inl rfl) (pe_ix ix_list dg (pv 3) (fun _ _ => rfl))) ?_
  refine pss_cons (ps_if (pt_cmpR op_gt (pv 4) pe_int rfl) (pss_cons (ps_asg (pe_op op_fdivW (pv 4) (pv 1)) (pg_sub dg (pv 3) set_list)) (pss_one (ps_ret (pe_op op_mod (pe_callTy call_int1 rfl mI (by decide +kernel) (pa_cons (pv 4) pa_nil)) (pv 1))))) pss_nil) ?_
  refine pss_cons (ps_set (i := 5) nd rfl (.inl rfl) (cm (cm (pe_ix ix_list dg (pv 3) (fun _ _ => rfl)) (pv 2) rfl rfl) (pe_op op_add pe_int (pv 2)) rfl rfl)) ?_
  exact pss_one (ps_ret (pe_op op_mod (pe_op op_fdivW (pe_callTy call_int1 rfl mI (by decide +kernel) (pa_cons (pe_op op_add (pe_op op_mulW (pv 5) pe_int) (cm (pv 5) (pe_op op_add pe_int (pv 2)) rfl rfl)) pa_nil)) pe_int) (pv 1)))
theorem like_ps {g : Gnd} {nm : List Str} {fs : Fns} {k : Nat} (tk : TOk (mkT g nm fs k) kw) (room : Room k (A.deeper (envOfC "_law_like" (defScope s2) s.heap.objs.size f cdv))) (gd : A.guards = some []) :
    PSs (CXD (mkT g nm fs k) ["got", "due"] "_law_like" s2 f cdv A outer s H E) (defBody s2) (likeTS g.K) := by
  have xs := xst_def (T := mkT g nm fs k) (qual := "_law_like") (f := f) (cdv := cdv) (outer := outer) (s := s) (H := H) (E := E) sc2 room gd
  have mR : g.mg "repr" = none := tk.bn _ (by decide)
  have cr := call_repr_d (X := CXD (mkT g nm fs k) ["got", "due"] "_law_like" s2 f cdv A outer s H E) gd xs.xo.hu
  exact pss_one (ps_ret (pe_cmpR op_eq (pe_callB cr rfl mR (by decide +kernel) (pa_cons (pv 0) pa_nil)) (pe_callB cr rfl mR (by decide +kernel) (pa_cons (pv 1) pa_nil)) rfl))
def C8X (st : Stmt) : Scope := match (defBody st).getD 1 (.Pass ⟨0, 0, 0, 0⟩) with
  | .Return (some (.Dict _ (_ :: .ListComp _ _ sc _ :: _) _)) _ => sc
  | _ => ⟨.function, [], false, false, []⟩
theorem begin_ps {g : Gnd} {nm : List Str} {fs : Fns} {k : Nat} (tk : TOk (mkT g nm fs k) kw) (room : Room k (A.deeper (envOfC "_law_begin" (defScope sB) s.heap.objs.size f cdv))) (gd : A.guards = some []) :
    PSs (CXD (mkT g nm fs k) ["script", "cells_so", "cell"] "_law_begin" sB f cdv A outer s H E) (defBody sB) (beginTS g.K) := by
  have xs := xst_def (T := mkT g nm fs k) (qual := "_law_begin") (f := f) (cdv := cdv) (outer := outer) (s := s) (H := H) (E := E) scB room gd
  have hu : (CXD (mkT g nm fs k) ["script", "cells_so", "cell"] "_law_begin" sB f cdv A outer s H E).A.units + 64 < cLine := by have z := xs.xo.hu; exact Nat.lt_of_succ_lt z
  have nd := (scB).nd
  have mL : g.mg "list" = none := tk.bn _ (by decide)
  refine pss_cons (ps_set (i := 1) nd rfl (.inl rfl) (pe_ifExp (pt_cmpR (op_neD hu) (pv 0) (pe_lst pa_nil) rfl) (pe_callTy call_list_of rfl mL (by decide +kernel) (pa_cons (pv 0) pa_nil)) (pe_lst (pa_cons pe_int pa_nil)))) ?_
  refine pss_one (ps_ret (pe_disp (pps_cons pe_str ?_ (pps_cons pe_str ?_ (pps_cons pe_str pe_int pps_nil))) rfl rfl (by simp) (by decide)))
  · exact pv 1
  · have bk : BlkOk ["script", "cells_so", "cell"] (defScope sB) (C8X sB) [("cell", 2)] := blkOk_by (by decide +kernel)
    refine pe_lc (own := [("cell", 2)]) rfl nd (pi_list ?_) bk (fun _ _ _ _ _ => ?_) (fun _ _ _ _ _ => pts_nil) (fun _ _ _ _ _ => pe_ifExp (pt_cmpR op_ge ?_ (pe_op op_pow pe_int pe_int) rfl) ?_ pe_int)
    · exact pv 1
    · exact pg_name (i := 2) nd rfl (.inl rfl)
    · exact pv 2
    · exact pv 2
end
section
variable {g : Gnd}
theorem tk0 (hg : g.gn = gns ∧ g.gs = gss) (hz : ∀ (j : Nat) (x : Str), g.gn[j]? = some x → ∃ w u v, g.gs[j]? = some w ∧ g.mg x = some u ∧ RelV v u ∧ ∀ c G, RW g.K g.fa c G v w) (hb : ∀ x ∈ bnames, g.mg x = none) : TOk (mkT g nm0 [] 0) kws := tok_zero hz hb
theorem kwk0 {fd : FuncData} (d : DefK g 0 "_law_mixed" ["cell", "k"] s0 fd) : ∀ q ∈ kws, q.1 = 0 → KwOk g.K fd ["cell", "k"] q.2.1 q.2.2.1 q.2.2.2 := by
  intro q hq; simp [kws] at hq
theorem tk1 (hg : g.gn = gns ∧ g.gs = gss) {fd : FuncData} (d : DefK g 0 "_law_mixed" ["cell", "k"] s0 fd) (tk : TOk (mkT g nm0 [] 0) kws) : TOk (mkT g nm1 fs1 1) kws := by
  obtain ⟨h1, h2⟩ := hg
  have r := tok_ev (fu := 0) tk (ct := ct0) d ⟨rfl, h1.symm, rfl⟩ sc0 rfl ck0 (kwk0 d)
  rw [h2] at r
  exact r
theorem kwk1 {fd : FuncData} (d : DefK g 1 "_law_draw" ["state", "limit"] s1 fd) : ∀ q ∈ kws, q.1 = 1 → KwOk g.K fd ["state", "limit"] q.2.1 q.2.2.1 q.2.2.2 := by
  intro q hq; simp [kws] at hq
theorem tk2 (hg : g.gn = gns ∧ g.gs = gss) {fd : FuncData} (d : DefK g 1 "_law_draw" ["state", "limit"] s1 fd) (tk : TOk (mkT g nm1 fs1 1) kws) : TOk (mkT g nm2 fs2 2) kws := by
  obtain ⟨h1, h2⟩ := hg
  exact tok_hand tk d sc1 rfl (fun cdv A outer s H E room gd => draw_ps (g0 := h2) tk room gd) (fun h => draw_key h) (fun _ _ _ _ h => drawF_len h) (kwk1 d)
theorem kwk2 {fd : FuncData} (d : DefK g 2 "_law_like" ["got", "due"] s2 fd) : ∀ q ∈ kws, q.1 = 2 → KwOk g.K fd ["got", "due"] q.2.1 q.2.2.1 q.2.2.2 := by
  intro q hq; simp [kws] at hq
theorem tk3 (hg : g.gn = gns ∧ g.gs = gss) {fd : FuncData} (d : DefK g 2 "_law_like" ["got", "due"] s2 fd) (tk : TOk (mkT g nm2 fs2 2) kws) : TOk (mkT g nm3 fs3 3) kws := by
  obtain ⟨h1, h2⟩ := hg
  exact tok_hand tk d sc2 rfl (fun cdv A outer s H E room gd => like_ps tk room gd) (fun h => like_key h) (fun _ _ _ _ h => likeF_len h) (kwk2 d)
theorem kwk3 {fd : FuncData} (d : DefK g 3 "is_from" ["value", "low", "high"] s3 fd) : ∀ q ∈ kws, q.1 = 3 → KwOk g.K fd ["value", "low", "high"] q.2.1 q.2.2.1 q.2.2.2 := by
  intro q hq; simp [kws] at hq
theorem tk4 (hg : g.gn = gns ∧ g.gs = gss) {fd : FuncData} (d : DefK g 3 "is_from" ["value", "low", "high"] s3 fd) (tk : TOk (mkT g nm3 fs3 3) kws) : TOk (mkT g nm4 fs4 4) kws := by
  obtain ⟨h1, h2⟩ := hg
  have r := tok_ev (fu := 200) tk (ct := ct3) d ⟨rfl, h1.symm, rfl⟩ sc3 rfl ck3 (kwk3 d)
  rw [h2] at r
  exact r
theorem kwk4 {fd : FuncData} (d : DefK g 4 "is_set" ["value", "most"] s4 fd) : ∀ q ∈ kws, q.1 = 4 → KwOk g.K fd ["value", "most"] q.2.1 q.2.2.1 q.2.2.2 := by
  intro q hq; simp [kws] at hq
theorem tk5 (hg : g.gn = gns ∧ g.gs = gss) {fd : FuncData} (d : DefK g 4 "is_set" ["value", "most"] s4 fd) (tk : TOk (mkT g nm4 fs4 4) kws) : TOk (mkT g nm5 fs5 5) kws := by
  obtain ⟨h1, h2⟩ := hg
  have r := tok_ev (fu := 200) tk (ct := ct4) d ⟨rfl, h1.symm, rfl⟩ sc4 rfl ck4 (kwk4 d)
  rw [h2] at r
  exact r
theorem kwk5 {fd : FuncData} (d : DefK g 5 "is_arrow" ["count", "value"] s5 fd) : ∀ q ∈ kws, q.1 = 5 → KwOk g.K fd ["count", "value"] q.2.1 q.2.2.1 q.2.2.2 := by
  intro q hq; simp [kws] at hq
theorem tk6 (hg : g.gn = gns ∧ g.gs = gss) {fd : FuncData} (d : DefK g 5 "is_arrow" ["count", "value"] s5 fd) (tk : TOk (mkT g nm5 fs5 5) kws) : TOk (mkT g nm6 fs6 6) kws := by
  obtain ⟨h1, h2⟩ := hg
  have r := tok_ev (fu := 200) tk (ct := ct5) d ⟨rfl, h1.symm, rfl⟩ sc5 rfl ck5 (kwk5 d)
  rw [h2] at r
  exact r
theorem kwk6 {fd : FuncData} (d : DefK g 6 "is_cause" ["count", "value"] s6 fd) : ∀ q ∈ kws, q.1 = 6 → KwOk g.K fd ["count", "value"] q.2.1 q.2.2.1 q.2.2.2 := by
  intro q hq; simp [kws] at hq
theorem tk7 (hg : g.gn = gns ∧ g.gs = gss) {fd : FuncData} (d : DefK g 6 "is_cause" ["count", "value"] s6 fd) (tk : TOk (mkT g nm6 fs6 6) kws) : TOk (mkT g nm7 fs7 7) kws := by
  obtain ⟨h1, h2⟩ := hg
  have r := tok_ev (fu := 200) tk (ct := ct6) d ⟨rfl, h1.symm, rfl⟩ sc6 rfl ck6 (kwk6 d)
  rw [h2] at r
  exact r
theorem kwk7 {fd : FuncData} (d : DefK g 7 "check_items" ["count", "value", "place", "judge"] s7 fd) : ∀ q ∈ kws, q.1 = 7 → KwOk g.K fd ["count", "value", "place", "judge"] q.2.1 q.2.2.1 q.2.2.2 := by
  intro q hq; simp [kws] at hq
theorem tk8 (hg : g.gn = gns ∧ g.gs = gss) {fd : FuncData} (d : DefK g 7 "check_items" ["count", "value", "place", "judge"] s7 fd) (tk : TOk (mkT g nm7 fs7 7) kws) : TOk (mkT g nm8 fs8 8) kws := by
  obtain ⟨h1, h2⟩ := hg
  have r := tok_ev (fu := 200) tk (ct := ct7) d ⟨rfl, h1.symm, rfl⟩ sc7 rfl ck7 (kwk7 d)
  rw [h2] at r
  exact r
theorem kwk8 {fd : FuncData} (d : DefK g 8 "check_drawing" ["value"] s8 fd) : ∀ q ∈ kws, q.1 = 8 → KwOk g.K fd ["value"] q.2.1 q.2.2.1 q.2.2.2 := by
  intro q hq; simp [kws] at hq
theorem tk9 (hg : g.gn = gns ∧ g.gs = gss) {fd : FuncData} (d : DefK g 8 "check_drawing" ["value"] s8 fd) (tk : TOk (mkT g nm8 fs8 8) kws) : TOk (mkT g nm9 fs9 9) kws := by
  obtain ⟨h1, h2⟩ := hg
  have r := tok_ev (fu := 200) tk (ct := ct8) d ⟨rfl, h1.symm, rfl⟩ sc8 rfl ck8 (kwk8 d)
  rw [h2] at r
  exact r
theorem kwk9 {fd : FuncData} (d : DefK g 9 "is_within" ["lot", "some"] s9 fd) : ∀ q ∈ kws, q.1 = 9 → KwOk g.K fd ["lot", "some"] q.2.1 q.2.2.1 q.2.2.2 := by
  intro q hq; simp [kws] at hq
theorem tk10 (hg : g.gn = gns ∧ g.gs = gss) {fd : FuncData} (d : DefK g 9 "is_within" ["lot", "some"] s9 fd) (tk : TOk (mkT g nm9 fs9 9) kws) : TOk (mkT g nm10 fs10 10) kws := by
  obtain ⟨h1, h2⟩ := hg
  have r := tok_ev (fu := 200) tk (ct := ct9) d ⟨rfl, h1.symm, rfl⟩ sc9 rfl ck9 (kwk9 d)
  rw [h2] at r
  exact r
theorem kwk10 {fd : FuncData} (d : DefK g 10 "every_so" ["drawing"] s10 fd) : ∀ q ∈ kws, q.1 = 10 → KwOk g.K fd ["drawing"] q.2.1 q.2.2.1 q.2.2.2 := by
  intro q hq; simp [kws] at hq
theorem tk11 (hg : g.gn = gns ∧ g.gs = gss) {fd : FuncData} (d : DefK g 10 "every_so" ["drawing"] s10 fd) (tk : TOk (mkT g nm10 fs10 10) kws) : TOk (mkT g nm11 fs11 11) kws := by
  obtain ⟨h1, h2⟩ := hg
  have r := tok_ev (fu := 200) tk (ct := ct10) d ⟨rfl, h1.symm, rfl⟩ sc10 rfl ck10 (kwk10 d)
  rw [h2] at r
  exact r
theorem kwk11 {fd : FuncData} (d : DefK g 11 "less_so" ["lot", "some"] s11 fd) : ∀ q ∈ kws, q.1 = 11 → KwOk g.K fd ["lot", "some"] q.2.1 q.2.2.1 q.2.2.2 := by
  intro q hq; simp [kws] at hq
theorem tk12 (hg : g.gn = gns ∧ g.gs = gss) {fd : FuncData} (d : DefK g 11 "less_so" ["lot", "some"] s11 fd) (tk : TOk (mkT g nm11 fs11 11) kws) : TOk (mkT g nm12 fs12 12) kws := by
  obtain ⟨h1, h2⟩ := hg
  have r := tok_ev (fu := 200) tk (ct := ct11) d ⟨rfl, h1.symm, rfl⟩ sc11 rfl ck11 (kwk11 d)
  rw [h2] at r
  exact r
theorem kwk12 {fd : FuncData} (d : DefK g 12 "children_so" ["drawing", "lot", "thing"] s12 fd) : ∀ q ∈ kws, q.1 = 12 → KwOk g.K fd ["drawing", "lot", "thing"] q.2.1 q.2.2.1 q.2.2.2 := by
  intro q hq; simp [kws] at hq
theorem tk13 (hg : g.gn = gns ∧ g.gs = gss) {fd : FuncData} (d : DefK g 12 "children_so" ["drawing", "lot", "thing"] s12 fd) (tk : TOk (mkT g nm12 fs12 12) kws) : TOk (mkT g nm13 fs13 13) kws := by
  obtain ⟨h1, h2⟩ := hg
  have r := tok_ev (fu := 200) tk (ct := ct12) d ⟨rfl, h1.symm, rfl⟩ sc12 rfl ck12 (kwk12 d)
  rw [h2] at r
  exact r
theorem kwk13 {fd : FuncData} (d : DefK g 13 "leading_so" ["drawing", "lot", "goal"] s13 fd) : ∀ q ∈ kws, q.1 = 13 → KwOk g.K fd ["drawing", "lot", "goal"] q.2.1 q.2.2.1 q.2.2.2 := by
  intro q hq; simp [kws] at hq
theorem tk14 (hg : g.gn = gns ∧ g.gs = gss) {fd : FuncData} (d : DefK g 13 "leading_so" ["drawing", "lot", "goal"] s13 fd) (tk : TOk (mkT g nm13 fs13 13) kws) : TOk (mkT g nm14 fs14 14) kws := by
  obtain ⟨h1, h2⟩ := hg
  have r := tok_ev (fu := 200) tk (ct := ct13) d ⟨rfl, h1.symm, rfl⟩ sc13 rfl ck13 (kwk13 d)
  rw [h2] at r
  exact r
theorem kwk14 {fd : FuncData} (d : DefK g 14 "check_question" ["value"] s14 fd) : ∀ q ∈ kws, q.1 = 14 → KwOk g.K fd ["value"] q.2.1 q.2.2.1 q.2.2.2 := by
  intro q hq; simp [kws] at hq
theorem tk15 (hg : g.gn = gns ∧ g.gs = gss) {fd : FuncData} (d : DefK g 14 "check_question" ["value"] s14 fd) (tk : TOk (mkT g nm14 fs14 14) kws) : TOk (mkT g nm15 fs15 15) kws := by
  obtain ⟨h1, h2⟩ := hg
  have r := tok_ev (fu := 200) tk (ct := ct14) d ⟨rfl, h1.symm, rfl⟩ sc14 rfl ck14 (kwk14 d)
  rw [h2] at r
  exact r
theorem kwk15 {fd : FuncData} (d : DefK g 15 "things_so" ["question"] s15 fd) : ∀ q ∈ kws, q.1 = 15 → KwOk g.K fd ["question"] q.2.1 q.2.2.1 q.2.2.2 := by
  intro q hq; simp [kws] at hq
theorem tk16 (hg : g.gn = gns ∧ g.gs = gss) {fd : FuncData} (d : DefK g 15 "things_so" ["question"] s15 fd) (tk : TOk (mkT g nm15 fs15 15) kws) : TOk (mkT g nm16 fs16 16) kws := by
  obtain ⟨h1, h2⟩ := hg
  have r := tok_ev (fu := 200) tk (ct := ct15) d ⟨rfl, h1.symm, rfl⟩ sc15 rfl ck15 (kwk15 d)
  rw [h2] at r
  exact r
theorem kwk16 {fd : FuncData} (d : DefK g 16 "is_moved" ["question", "value"] s16 fd) : ∀ q ∈ kws, q.1 = 16 → KwOk g.K fd ["question", "value"] q.2.1 q.2.2.1 q.2.2.2 := by
  intro q hq; simp [kws] at hq
theorem tk17 (hg : g.gn = gns ∧ g.gs = gss) {fd : FuncData} (d : DefK g 16 "is_moved" ["question", "value"] s16 fd) (tk : TOk (mkT g nm16 fs16 16) kws) : TOk (mkT g nm17 fs17 17) kws := by
  obtain ⟨h1, h2⟩ := hg
  have r := tok_ev (fu := 200) tk (ct := ct16) d ⟨rfl, h1.symm, rfl⟩ sc16 rfl ck16 (kwk16 d)
  rw [h2] at r
  exact r
theorem kwk17 {fd : FuncData} (d : DefK g 17 "check_moved" ["question", "value"] s17 fd) : ∀ q ∈ kws, q.1 = 17 → KwOk g.K fd ["question", "value"] q.2.1 q.2.2.1 q.2.2.2 := by
  intro q hq; simp [kws] at hq
theorem tk18 (hg : g.gn = gns ∧ g.gs = gss) {fd : FuncData} (d : DefK g 17 "check_moved" ["question", "value"] s17 fd) (tk : TOk (mkT g nm17 fs17 17) kws) : TOk (mkT g nm18 fs18 18) kws := by
  obtain ⟨h1, h2⟩ := hg
  have r := tok_ev (fu := 200) tk (ct := ct17) d ⟨rfl, h1.symm, rfl⟩ sc17 rfl ck17 (kwk17 d)
  rw [h2] at r
  exact r
theorem kwk18 {fd : FuncData} (d : DefK g 18 "goal_so" ["question", "moved"] s18 fd) : ∀ q ∈ kws, q.1 = 18 → KwOk g.K fd ["question", "moved"] q.2.1 q.2.2.1 q.2.2.2 := by
  intro q hq; simp [kws] at hq
theorem tk19 (hg : g.gn = gns ∧ g.gs = gss) {fd : FuncData} (d : DefK g 18 "goal_so" ["question", "moved"] s18 fd) (tk : TOk (mkT g nm18 fs18 18) kws) : TOk (mkT g nm19 fs19 19) kws := by
  obtain ⟨h1, h2⟩ := hg
  have r := tok_ev (fu := 200) tk (ct := ct18) d ⟨rfl, h1.symm, rfl⟩ sc18 rfl ck18 (kwk18 d)
  rw [h2] at r
  exact r
theorem kwk19 {fd : FuncData} (d : DefK g 19 "things_of" ["question"] s19 fd) : ∀ q ∈ kws, q.1 = 19 → KwOk g.K fd ["question"] q.2.1 q.2.2.1 q.2.2.2 := by
  intro q hq; simp [kws] at hq
theorem tk20 (hg : g.gn = gns ∧ g.gs = gss) {fd : FuncData} (d : DefK g 19 "things_of" ["question"] s19 fd) (tk : TOk (mkT g nm19 fs19 19) kws) : TOk (mkT g nm20 fs20 20) kws := by
  obtain ⟨h1, h2⟩ := hg
  have r := tok_ev (fu := 200) tk (ct := ct19) d ⟨rfl, h1.symm, rfl⟩ sc19 rfl ck19 (kwk19 d)
  rw [h2] at r
  exact r
theorem kwk20 {fd : FuncData} (d : DefK g 20 "goal" ["question", "moved"] s20 fd) : ∀ q ∈ kws, q.1 = 20 → KwOk g.K fd ["question", "moved"] q.2.1 q.2.2.1 q.2.2.2 := by
  intro q hq; simp [kws] at hq
theorem tk21 (hg : g.gn = gns ∧ g.gs = gss) {fd : FuncData} (d : DefK g 20 "goal" ["question", "moved"] s20 fd) (tk : TOk (mkT g nm20 fs20 20) kws) : TOk (mkT g nm21 fs21 21) kws := by
  obtain ⟨h1, h2⟩ := hg
  have r := tok_ev (fu := 200) tk (ct := ct20) d ⟨rfl, h1.symm, rfl⟩ sc20 rfl ck20 (kwk20 d)
  rw [h2] at r
  exact r
theorem kwk21 {fd : FuncData} (d : DefK g 21 "_law_drawing" ["state", "low", "high"] s21 fd) : ∀ q ∈ kws, q.1 = 21 → KwOk g.K fd ["state", "low", "high"] q.2.1 q.2.2.1 q.2.2.2 := by
  intro q hq; simp [kws] at hq
theorem tk22 (hg : g.gn = gns ∧ g.gs = gss) {fd : FuncData} (d : DefK g 21 "_law_drawing" ["state", "low", "high"] s21 fd) (tk : TOk (mkT g nm21 fs21 21) kws) : TOk (mkT g nm22 fs22 22) kws := by
  obtain ⟨h1, h2⟩ := hg
  have r := tok_ev (fu := 200) tk (ct := ct21) d ⟨rfl, h1.symm, rfl⟩ sc21 rfl ck21 (kwk21 d)
  rw [h2] at r
  exact r
theorem kwk22 {fd : FuncData} (d : DefK g 22 "_law_question" ["state", "draw_so"] s22 fd) : ∀ q ∈ kws, q.1 = 22 → KwOk g.K fd ["state", "draw_so"] q.2.1 q.2.2.1 q.2.2.2 := by
  intro q hq; simp [kws] at hq
theorem tk23 (hg : g.gn = gns ∧ g.gs = gss) {fd : FuncData} (d : DefK g 22 "_law_question" ["state", "draw_so"] s22 fd) (tk : TOk (mkT g nm22 fs22 22) kws) : TOk (mkT g nm23 fs23 23) kws := by
  obtain ⟨h1, h2⟩ := hg
  have r := tok_ev (fu := 200) tk (ct := ct22) d ⟨rfl, h1.symm, rfl⟩ sc22 rfl ck22 (kwk22 d)
  rw [h2] at r
  exact r
theorem kwk23 {fd : FuncData} (d : DefK g 23 "_law_comes" ["arrows_so", "outside", "spot", "targets"] s23 fd) : ∀ q ∈ kws, q.1 = 23 → KwOk g.K fd ["arrows_so", "outside", "spot", "targets"] q.2.1 q.2.2.1 q.2.2.2 := by
  intro q hq; simp [kws] at hq
theorem tk24 (hg : g.gn = gns ∧ g.gs = gss) {fd : FuncData} (d : DefK g 23 "_law_comes" ["arrows_so", "outside", "spot", "targets"] s23 fd) (tk : TOk (mkT g nm23 fs23 23) kws) : TOk (mkT g nm24 fs24 43) kws := by
  obtain ⟨h1, h2⟩ := hg
  have r := tok_rec (fu := 200) tk (ct := ct23) 20 d ⟨rfl, h1.symm, rfl⟩ sc23 rfl ck23 (kwk23 d)
  rw [h2] at r
  exact r
theorem kwk24 {fd : FuncData} (d : DefK g 24 "_law_due" ["asked_so", "told"] s24 fd) : ∀ q ∈ kws, q.1 = 24 → KwOk g.K fd ["asked_so", "told"] q.2.1 q.2.2.1 q.2.2.2 := by
  intro q hq; simp [kws] at hq
theorem tk25 (hg : g.gn = gns ∧ g.gs = gss) {fd : FuncData} (d : DefK g 24 "_law_due" ["asked_so", "told"] s24 fd) (tk : TOk (mkT g nm24 fs24 43) kws) : TOk (mkT g nm25 fs25 44) kws := by
  obtain ⟨h1, h2⟩ := hg
  have r := tok_ev (fu := 200) tk (ct := ct24) d ⟨rfl, h1.symm, rfl⟩ sc24 rfl ck24 (kwk24 d)
  rw [h2] at r
  exact r
theorem kwk25 {fd : FuncData} (d : DefK g 25 "_law_moves" ["seen_so"] s25 fd) : ∀ q ∈ kws, q.1 = 25 → KwOk g.K fd ["seen_so"] q.2.1 q.2.2.1 q.2.2.2 := by
  intro q hq; simp [kws] at hq
theorem tk26 (hg : g.gn = gns ∧ g.gs = gss) {fd : FuncData} (d : DefK g 25 "_law_moves" ["seen_so"] s25 fd) (tk : TOk (mkT g nm25 fs25 44) kws) : TOk (mkT g nm26 fs26 45) kws := by
  obtain ⟨h1, h2⟩ := hg
  have r := tok_ev (fu := 200) tk (ct := ct25) d ⟨rfl, h1.symm, rfl⟩ sc25 rfl ck25 (kwk25 d)
  rw [h2] at r
  exact r
theorem kwk26 {fd : FuncData} (d : DefK g 26 "_law_right" ["asked_so"] s26 fd) : ∀ q ∈ kws, q.1 = 26 → KwOk g.K fd ["asked_so"] q.2.1 q.2.2.1 q.2.2.2 := by
  intro q hq; simp [kws] at hq
theorem tk27 (hg : g.gn = gns ∧ g.gs = gss) {fd : FuncData} (d : DefK g 26 "_law_right" ["asked_so"] s26 fd) (tk : TOk (mkT g nm26 fs26 45) kws) : TOk (mkT g nm27 fs27 46) kws := by
  obtain ⟨h1, h2⟩ := hg
  have r := tok_ev (fu := 200) tk (ct := ct26) d ⟨rfl, h1.symm, rfl⟩ sc26 rfl ck26 (kwk26 d)
  rw [h2] at r
  exact r
end
theorem law_ps {g : Gnd} {names : List Str} {fs : Fns} {k : Nat} {fB fL : Addr} {fdB : FuncData} (mB : g.mg "_law_begin" = some (.ref fB)) (kB : PySem.W.keepIn g.K (.ref fB) = true) (bB : Binds g.K fdB ["script"] []) :
    FnG g.P g.w g.K g.mg g.base (k + 1) fB fdB ["script"] (spBegin g.K) → ∀ (cdv : Value) (A : Around) (outer : List PySem.Env) (s : Shared) (H : Hp) (E : XK) (t : TS), Room (k + 1) (A.deeper (envOfC "law" (defScope sL) s.heap.objs.size fL cdv)) → A.guards = some [] →
      XSt (mkT g names fs (k + 1)) ctL.N (defScope sL) (fun _ => true) E (cxOf (L2.CX g.P g.w) g.P g.w g.K g.mg g.base ctL.N "law" (defScope sL) fL cdv A outer s H E) →
      PSs (cxOf (L2.CX g.P g.w) g.P g.w g.K g.mg g.base ctL.N "law" (defScope sL) fL cdv A outer s H E) (defBody sL).tail t →
      PSs (cxOf (L2.CX g.P g.w) g.P g.w g.K g.mg g.base ctL.N "law" (defScope sL) fL cdv A outer s H E) (defBody sL) (tSeq (tAsg (tCG (spBegin g.K) E (tCons (tVar 0) tNil)) (gName 1)) t) := by
  intro GB cdv A outer s H E t room gd xs ht
  exact pss_cons (ps_set (i := 1) scL.nd rfl (by first | exact .inl rfl | exact .inr rfl) (pe_cG GB room gd rfl mB kB bB xs.xo.pas (pa_cons (pv 0) pa_nil) (by decide) rfl rfl)) ht
section
theorem all_mk {l : PySem.W.OpenLaw} {w : World} {K : Frag} {h : Heap} {mg : Str → Option Value} {fa : Addr} (X : K.In h) (G : h.Ns mainGlobals mg) (hfa : mg "law" = some (.ref fa))
    {f0 f1 f2 f3 f4 f5 f6 f7 f8 f9 f10 f11 f12 f13 f14 f15 f16 f17 f18 f19 f20 f21 f22 f23 f24 f25 f26 fB fL : Addr}
    (a0 : DefAt K "_law_mixed" s0 f0)
    (a1 : DefAt K "_law_draw" s1 f1)
    (a2 : DefAt K "_law_like" s2 f2)
    (a3 : DefAt K "is_from" s3 f3)
    (a4 : DefAt K "is_set" s4 f4)
    (a5 : DefAt K "is_arrow" s5 f5)
    (a6 : DefAt K "is_cause" s6 f6)
    (a7 : DefAt K "check_items" s7 f7)
    (a8 : DefAt K "check_drawing" s8 f8)
    (a9 : DefAt K "is_within" s9 f9)
    (a10 : DefAt K "every_so" s10 f10)
    (a11 : DefAt K "less_so" s11 f11)
    (a12 : DefAt K "children_so" s12 f12)
    (a13 : DefAt K "leading_so" s13 f13)
    (a14 : DefAt K "check_question" s14 f14)
    (a15 : DefAt K "things_so" s15 f15)
    (a16 : DefAt K "is_moved" s16 f16)
    (a17 : DefAt K "check_moved" s17 f17)
    (a18 : DefAt K "goal_so" s18 f18)
    (a19 : DefAt K "things_of" s19 f19)
    (a20 : DefAt K "goal" s20 f20)
    (a21 : DefAt K "_law_drawing" s21 f21)
    (a22 : DefAt K "_law_question" s22 f22)
    (a23 : DefAt K "_law_comes" s23 f23)
    (a24 : DefAt K "_law_due" s24 f24)
    (a25 : DefAt K "_law_moves" s25 f25)
    (a26 : DefAt K "_law_right" s26 f26)
    (aB : DefAt K "_law_begin" sB fB) (aL : DefAt K "law" sL fL)
    {t0 : Tok} (g0 : PySem.W.nsIn K mainGlobals "MOST_THINGS" = some (some (.int 10 t0)))
    {t1 : Tok} (g1 : PySem.W.nsIn K mainGlobals "MOST_CAUSES" = some (some (.int 20 t1)))
    (zz : ∀ x ∈ bnames, PySem.W.nsIn K mainGlobals x = some none) :
    ∃ fd : FuncData, (∀ (s : Shared) (v : Value), BindsTo s fd ⟨[v], []⟩ [("script", v)]) ∧ ∀ base : Heap, K.In base → base.Ns mainGlobals mg → FnG l.prog w K mg base 48 fa fd ["script"] (spLaw K fs27 gss 200 5 bL) := by
  obtain ⟨fd0, e0, m0⟩ := a0.fn
  obtain ⟨fd1, e1, m1⟩ := a1.fn
  obtain ⟨fd2, e2, m2⟩ := a2.fn
  obtain ⟨fd3, e3, m3⟩ := a3.fn
  obtain ⟨fd4, e4, m4⟩ := a4.fn
  obtain ⟨fd5, e5, m5⟩ := a5.fn
  obtain ⟨fd6, e6, m6⟩ := a6.fn
  obtain ⟨fd7, e7, m7⟩ := a7.fn
  obtain ⟨fd8, e8, m8⟩ := a8.fn
  obtain ⟨fd9, e9, m9⟩ := a9.fn
  obtain ⟨fd10, e10, m10⟩ := a10.fn
  obtain ⟨fd11, e11, m11⟩ := a11.fn
  obtain ⟨fd12, e12, m12⟩ := a12.fn
  obtain ⟨fd13, e13, m13⟩ := a13.fn
  obtain ⟨fd14, e14, m14⟩ := a14.fn
  obtain ⟨fd15, e15, m15⟩ := a15.fn
  obtain ⟨fd16, e16, m16⟩ := a16.fn
  obtain ⟨fd17, e17, m17⟩ := a17.fn
  obtain ⟨fd18, e18, m18⟩ := a18.fn
  obtain ⟨fd19, e19, m19⟩ := a19.fn
  obtain ⟨fd20, e20, m20⟩ := a20.fn
  obtain ⟨fd21, e21, m21⟩ := a21.fn
  obtain ⟨fd22, e22, m22⟩ := a22.fn
  obtain ⟨fd23, e23, m23⟩ := a23.fn
  obtain ⟨fd24, e24, m24⟩ := a24.fn
  obtain ⟨fd25, e25, m25⟩ := a25.fn
  obtain ⟨fd26, e26, m26⟩ := a26.fn
  obtain ⟨fdB, eB, mB⟩ := aB.fn
  obtain ⟨fdL, eL, mL⟩ := aL.fn
  have eqL := hfa.symm.trans (PySem.W.mg_of X G mL)
  cases eqL
  refine ⟨fdL, fun s v => ?_, fun base KB GB => ?_⟩
  · obtain ⟨⟨oc, od, kV, doc, pm, an, cdv, ct, osl, rfl, look, code⟩, kp⟩ := eL
    exact .of_eq rfl
  · obtain ⟨g, hg⟩ : ∃ g : Gnd, g = ⟨l.prog, w, K, mg, base, fun i => [f0, f1, f2, f3, f4, f5, f6, f7, f8, f9, f10, f11, f12, f13, f14, f15, f16, f17, f18, f19, f20, f21, f22, f23, f24, f25, f26].getD i 0, fun _ => 0, gss, gns⟩ := ⟨_, rfl⟩
    have d0 : DefK g 0 "_law_mixed" ["cell", "k"] s0 fd0 := by rw [hg]; exact ⟨e0, PySem.W.mg_of X G m0, e0.binds fun _ _ _ _ _ _ us hl => match us, hl with | [_, _], _ => rfl⟩
    have d1 : DefK g 1 "_law_draw" ["state", "limit"] s1 fd1 := by rw [hg]; exact ⟨e1, PySem.W.mg_of X G m1, e1.binds fun _ _ _ _ _ _ us hl => match us, hl with | [_, _], _ => rfl⟩
    have d2 : DefK g 2 "_law_like" ["got", "due"] s2 fd2 := by rw [hg]; exact ⟨e2, PySem.W.mg_of X G m2, e2.binds fun _ _ _ _ _ _ us hl => match us, hl with | [_, _], _ => rfl⟩
    have d3 : DefK g 3 "is_from" ["value", "low", "high"] s3 fd3 := by rw [hg]; exact ⟨e3, PySem.W.mg_of X G m3, e3.binds fun _ _ _ _ _ _ us hl => match us, hl with | [_, _, _], _ => rfl⟩
    have d4 : DefK g 4 "is_set" ["value", "most"] s4 fd4 := by rw [hg]; exact ⟨e4, PySem.W.mg_of X G m4, e4.binds fun _ _ _ _ _ _ us hl => match us, hl with | [_, _], _ => rfl⟩
    have d5 : DefK g 5 "is_arrow" ["count", "value"] s5 fd5 := by rw [hg]; exact ⟨e5, PySem.W.mg_of X G m5, e5.binds fun _ _ _ _ _ _ us hl => match us, hl with | [_, _], _ => rfl⟩
    have d6 : DefK g 6 "is_cause" ["count", "value"] s6 fd6 := by rw [hg]; exact ⟨e6, PySem.W.mg_of X G m6, e6.binds fun _ _ _ _ _ _ us hl => match us, hl with | [_, _], _ => rfl⟩
    have d7 : DefK g 7 "check_items" ["count", "value", "place", "judge"] s7 fd7 := by rw [hg]; exact ⟨e7, PySem.W.mg_of X G m7, e7.binds fun _ _ _ _ _ _ us hl => match us, hl with | [_, _, _, _], _ => rfl⟩
    have d8 : DefK g 8 "check_drawing" ["value"] s8 fd8 := by rw [hg]; exact ⟨e8, PySem.W.mg_of X G m8, e8.binds fun _ _ _ _ _ _ us hl => match us, hl with | [_], _ => rfl⟩
    have d9 : DefK g 9 "is_within" ["lot", "some"] s9 fd9 := by rw [hg]; exact ⟨e9, PySem.W.mg_of X G m9, e9.binds fun _ _ _ _ _ _ us hl => match us, hl with | [_, _], _ => rfl⟩
    have d10 : DefK g 10 "every_so" ["drawing"] s10 fd10 := by rw [hg]; exact ⟨e10, PySem.W.mg_of X G m10, e10.binds fun _ _ _ _ _ _ us hl => match us, hl with | [_], _ => rfl⟩
    have d11 : DefK g 11 "less_so" ["lot", "some"] s11 fd11 := by rw [hg]; exact ⟨e11, PySem.W.mg_of X G m11, e11.binds fun _ _ _ _ _ _ us hl => match us, hl with | [_, _], _ => rfl⟩
    have d12 : DefK g 12 "children_so" ["drawing", "lot", "thing"] s12 fd12 := by rw [hg]; exact ⟨e12, PySem.W.mg_of X G m12, e12.binds fun _ _ _ _ _ _ us hl => match us, hl with | [_, _, _], _ => rfl⟩
    have d13 : DefK g 13 "leading_so" ["drawing", "lot", "goal"] s13 fd13 := by rw [hg]; exact ⟨e13, PySem.W.mg_of X G m13, e13.binds fun _ _ _ _ _ _ us hl => match us, hl with | [_, _, _], _ => rfl⟩
    have d14 : DefK g 14 "check_question" ["value"] s14 fd14 := by rw [hg]; exact ⟨e14, PySem.W.mg_of X G m14, e14.binds fun _ _ _ _ _ _ us hl => match us, hl with | [_], _ => rfl⟩
    have d15 : DefK g 15 "things_so" ["question"] s15 fd15 := by rw [hg]; exact ⟨e15, PySem.W.mg_of X G m15, e15.binds fun _ _ _ _ _ _ us hl => match us, hl with | [_], _ => rfl⟩
    have d16 : DefK g 16 "is_moved" ["question", "value"] s16 fd16 := by rw [hg]; exact ⟨e16, PySem.W.mg_of X G m16, e16.binds fun _ _ _ _ _ _ us hl => match us, hl with | [_, _], _ => rfl⟩
    have d17 : DefK g 17 "check_moved" ["question", "value"] s17 fd17 := by rw [hg]; exact ⟨e17, PySem.W.mg_of X G m17, e17.binds fun _ _ _ _ _ _ us hl => match us, hl with | [_, _], _ => rfl⟩
    have d18 : DefK g 18 "goal_so" ["question", "moved"] s18 fd18 := by rw [hg]; exact ⟨e18, PySem.W.mg_of X G m18, e18.binds fun _ _ _ _ _ _ us hl => match us, hl with | [_, _], _ => rfl⟩
    have d19 : DefK g 19 "things_of" ["question"] s19 fd19 := by rw [hg]; exact ⟨e19, PySem.W.mg_of X G m19, e19.binds fun _ _ _ _ _ _ us hl => match us, hl with | [_], _ => rfl⟩
    have d20 : DefK g 20 "goal" ["question", "moved"] s20 fd20 := by rw [hg]; exact ⟨e20, PySem.W.mg_of X G m20, e20.binds fun _ _ _ _ _ _ us hl => match us, hl with | [_, _], _ => rfl⟩
    have d21 : DefK g 21 "_law_drawing" ["state", "low", "high"] s21 fd21 := by rw [hg]; exact ⟨e21, PySem.W.mg_of X G m21, e21.binds fun _ _ _ _ _ _ us hl => match us, hl with | [_, _, _], _ => rfl⟩
    have d22 : DefK g 22 "_law_question" ["state", "draw_so"] s22 fd22 := by rw [hg]; exact ⟨e22, PySem.W.mg_of X G m22, e22.binds fun _ _ _ _ _ _ us hl => match us, hl with | [_, _], _ => rfl⟩
    have d23 : DefK g 23 "_law_comes" ["arrows_so", "outside", "spot", "targets"] s23 fd23 := by rw [hg]; exact ⟨e23, PySem.W.mg_of X G m23, e23.binds fun _ _ _ _ _ _ us hl => match us, hl with | [_, _, _, _], _ => rfl⟩
    have d24 : DefK g 24 "_law_due" ["asked_so", "told"] s24 fd24 := by rw [hg]; exact ⟨e24, PySem.W.mg_of X G m24, e24.binds fun _ _ _ _ _ _ us hl => match us, hl with | [_, _], _ => rfl⟩
    have d25 : DefK g 25 "_law_moves" ["seen_so"] s25 fd25 := by rw [hg]; exact ⟨e25, PySem.W.mg_of X G m25, e25.binds fun _ _ _ _ _ _ us hl => match us, hl with | [_], _ => rfl⟩
    have d26 : DefK g 26 "_law_right" ["asked_so"] s26 fd26 := by rw [hg]; exact ⟨e26, PySem.W.mg_of X G m26, e26.binds fun _ _ _ _ _ _ us hl => match us, hl with | [_], _ => rfl⟩
    have hh : g.gn = gns ∧ g.gs = gss := by rw [hg]; exact ⟨rfl, rfl⟩
    have t0 := tk0 hh (by
      rw [hg]
      intro j x hj
      match j, hj with
      | 0, hj => cases hj; exact ⟨_, _, .int 10, rfl, PySem.W.mg_of X G g0, ⟨_, rfl⟩, fun _ _ => .d (.int _)⟩
      | 1, hj => cases hj; exact ⟨_, _, .int 20, rfl, PySem.W.mg_of X G g1, ⟨_, rfl⟩, fun _ _ => .d (.int _)⟩
      | j + 2, hj => simp [gns] at hj) (by rw [hg]; exact fun x hx => PySem.W.mg_none_of X G (zz x hx))
    have t1 := tk1 hh d0 t0
    have t2 := tk2 hh d1 t1
    have t3 := tk3 hh d2 t2
    have t4 := tk4 hh d3 t3
    have t5 := tk5 hh d4 t4
    have t6 := tk6 hh d5 t5
    have t7 := tk7 hh d6 t6
    have t8 := tk8 hh d7 t7
    have t9 := tk9 hh d8 t8
    have t10 := tk10 hh d9 t9
    have t11 := tk11 hh d10 t10
    have t12 := tk12 hh d11 t11
    have t13 := tk13 hh d12 t12
    have t14 := tk14 hh d13 t13
    have t15 := tk15 hh d14 t14
    have t16 := tk16 hh d15 t15
    have t17 := tk17 hh d16 t16
    have t18 := tk18 hh d17 t17
    have t19 := tk19 hh d18 t18
    have t20 := tk20 hh d19 t19
    have t21 := tk21 hh d20 t20
    have t22 := tk22 hh d21 t21
    have t23 := tk23 hh d22 t22
    have t24 := tk24 hh d23 t23
    have t25 := tk25 hh d24 t24
    have t26 := tk26 hh d25 t25
    have t27 := tk27 hh d26 t26
    have mB2 : g.mg "_law_begin" = some (.ref fB) := by rw [hg]; exact PySem.W.mg_of X G mB
    have eB2 : L2.Fun g.K "_law_begin" "_law_begin" sB fB fdB := by rw [hg]; exact eB
    have eL2 : L2.Fun g.K "law" "law" sL fa fdL := by rw [hg]; exact eL
    have r := law_fnG (fu := 200) (ct := ctL) t27 eB2 scB rfl (fun cdv A outer s H E room gd => begin_ps t27 room gd) eL2 scL (by decide) ⟨rfl, hh.1.symm, rfl⟩ ckL (law_ps mB2 eB2.kp (eB2.binds fun _ _ _ _ _ _ us hl => match us, hl with | [_], _ => rfl))
    rw [hg] at r
    exact r
end
end DK24

set_option Elab.async false
set_option linter.all false
set_option autoImplicit false
set_option maxRecDepth 100000
set_option maxHeartbeats 4000000
/-! DP0: the small language's runs in plain Lean: one law for each form. -/
namespace DS
open PySem PySem.Spec PySem.SeqAt PyProof.Rows L2
section
variable {fs : Fns} {gs : List W} {r : Env} {bw : Bool} {fu : Nat}
/-! ### forms -/
def stepC (fs : Fns) (gs : List W) (r : Env) (tg : Tg) (cs : EL) (elt : E) : W → M (Option PyData) := fun w => match asgT tg w (wipeE r tg.is) with
  | some r1 => (evC fs gs r1 cs).bind fun c => if c = true then (evE fs gs r1 false elt).bind fun y => (opt y.data?).bind fun x => .ret (some x) else .ret none
  | none => .stuck
def compR (fs : Fns) (gs : List W) (r : Env) (tg : Tg) (cs : EL) (elt : E) (ws : List W) : M W := if ws.length ≤ cap then (compM (stepC fs gs r tg cs elt) ws []).nox.bind fun ds => .ret (.d (.list ds)) else .stuck
def cmpK (op : Cop) (x y : W) : M W := (opt (cmpW op x y)).bind fun c => .ret (.b c)
def iteK (x : W) (a b : M W) : M W := (opt (wBool x)).bind fun k => if k = true then a else b
def notK (x : W) : M W := (opt (wBool x)).bind fun c => .ret (.b (!c))
def bopK (conj : Bool) (x : W) (rest : M W) : M W := (opt (wBool x)).bind fun c => if c = conj then rest else .ret (.b (!conj))
def tupK (ws : List W) : M W := match datas ws with
  | some ds => .ret (.d (.tuple ds))
  | none => .stuck
def lstK (ws : List W) : M W := match datas ws with
  | some ds => .ret (.d (.list ds))
  | none => .stuck
theorem v_v (i : Nat) : evE fs gs r bw (.v i) = getN r bw i := (rfl)
theorem v_non : evE fs gs r bw .non = .ret (.d .none) := (rfl)
theorem v_bl (b : Bool) : evE fs gs r bw (.bl b) = .ret (.b b) := (rfl)
theorem v_int (i : Int) : evE fs gs r bw (.int i) = .ret (.i i) := (rfl)
theorem v_str (s : Str) : evE fs gs r bw (.str s) = .ret (.d (.str s)) := (rfl)
theorem v_gl (j : Nat) : evE fs gs r bw (.gl j) = opt gs[j]? := by show (match gs[j]? with | some w => M.ret w | none => .stuck) = _; cases gs[j]? <;> rfl
theorem v_fn (f : Nat) : evE fs gs r bw (.fn f) = .ret (.fn f) := (rfl)
theorem v_tup (es : EL) : evE fs gs r bw (.tup es) = (evL fs gs r es).bind tupK := (rfl)
theorem v_lst (es : EL) : evE fs gs r bw (.lst es) = (evL fs gs r es).bind lstK := (rfl)
theorem v_dnew : evE fs gs r bw .dnew = .ret (.dK []) := (rfl)
theorem v_bin (op : Bop) (a b : E) : evE fs gs r bw (.bin op a b) = (evE fs gs r true a).bind fun x => (evE fs gs r true b).bind fun y => opt (binW op x y) := (rfl)
theorem v_neg (a : E) : evE fs gs r bw (.neg a) = (evE fs gs r false a).bind fun x => (opt (wInt x)).bind fun i => .ret (.i (-i)) := (rfl)
theorem v_cmp (op : Cop) (a b : E) : evE fs gs r bw (.cmp op a b) = (evE fs gs r true a).bind fun x => (evE fs gs r true b).bind fun y => cmpK op x y := (rfl)
theorem v_chain (p q : Cop) (a b c : E) : evE fs gs r bw (.chain p q a b c) = (evE fs gs r false a).bind fun x => (evE fs gs r false b).bind fun y => (opt (cmpW p x y)).bind fun k =>
      if k = true then (evE fs gs r false c).bind fun z => cmpK q y z else .ret (.b false) := (rfl)
theorem v_isN (a : E) : evE fs gs r bw (.isN a) = (evE fs gs r false a).bind fun x => .ret (.b (isNone x)) := (rfl)
theorem v_notN (a : E) : evE fs gs r bw (.notN a) = (evE fs gs r false a).bind fun x => .ret (.b (!isNone x)) := (rfl)
theorem v_bop (conj : Bool) (es : EL) : evE fs gs r bw (.bop conj es) = evB fs gs r conj es := (rfl)
theorem v_b1 (conj : Bool) (e : E) : evB fs gs r conj (.cons e .nil) = evE fs gs r false e := by simp [evB]
theorem v_b2 (conj : Bool) (e e2 : E) (es : EL) : evB fs gs r conj (.cons e (.cons e2 es)) = (evE fs gs r false e).bind fun x => bopK conj x (evB fs gs r conj (.cons e2 es)) := by simp [evB, bopK]
theorem v_not (a : E) : evE fs gs r bw (.not a) = (evE fs gs r false a).bind notK := (rfl)
theorem v_ite (c a b : E) : evE fs gs r bw (.ite c a b) = (evE fs gs r false c).bind fun x => iteK x (evE fs gs r false a) (evE fs gs r false b) := (rfl)
theorem v_ix (a i : E) : evE fs gs r bw (.ix a i) = (evE fs gs r true a).bind fun x => (evE fs gs r false i).bind fun y => opt (ixW x y) := (rfl)
theorem v_sl (a : E) (lo hi : EL) : evE fs gs r bw (.sl a lo hi) = (evE fs gs r true a).bind fun x => (evO fs gs r lo).bind fun l => (evO fs gs r hi).bind fun h => opt (slW x l h) := (rfl)
theorem v_call (f : Nat) (es : EL) : evE fs gs r bw (.call f es) = (evL fs gs r es).bind fun ws => applyF fs f ws := (rfl)
theorem v_callk (f np : Nat) (ks : List Str) (perm : List Nat) (es : EL) : evE fs gs r bw (.callk f np ks perm es) = (evL fs gs r es).bind fun ws => match permW ws perm with
    | some vs => applyF fs f vs
    | none => .stuck := (rfl)
theorem v_callv (i : Nat) (es : EL) : evE fs gs r bw (.callv i es) = (getN r false i).bind fun g => callW fs g fun f => (evL fs gs r es).bind fun ws => applyF fs f ws := (rfl)
theorem v_bi (b : B1) (a : E) : evE fs gs r bw (.b1 b a) = (evE fs gs r true a).bind fun x => opt (b1W b x) := (rfl)
theorem v_isi (a : E) (t : Ty) : evE fs gs r bw (.isi a t) = (evE fs gs r true a).bind fun x => (opt (isiW x t)).bind fun c => .ret (.b c) := (rfl)
theorem v_comp (tg : Tg) (it : It) (cs : EL) (elt : E) : evE fs gs r bw (.comp tg it cs elt) = (itB r (evI fs gs r it) it).bind (compR fs gs r tg cs elt) := (rfl)
theorem b_v (i : Nat) (k : M (List W)) : itB r k (.of (.v i)) = (getN r true i).bind fun x => opt (itOf x) := (rfl)
theorem l_nil : evL fs gs r .nil = .ret [] := (rfl)
theorem l_cons (e : E) (es : EL) : evL fs gs r (.cons e es) = (evE fs gs r false e).bind fun w => (evL fs gs r es).bind fun ws => .ret (w :: ws) := (rfl)
theorem o_nil : evO fs gs r .nil = .ret none := (rfl)
theorem o_cons (e : E) (es : EL) : evO fs gs r (.cons e es) = (evE fs gs r false e).bind fun x => (opt (wInt x)).bind fun i => .ret (some i) := (rfl)
theorem c_nil' : evC fs gs r .nil = .ret true := (rfl)
theorem c_cons' (e : E) (es : EL) : evC fs gs r (.cons e es) = (evE fs gs r false e).bind fun x => opt (wBool x) := (rfl)
theorem i_of' (a : E) : evI fs gs r (.of a) = (evE fs gs r false a).bind fun x => opt (itOf x) := (rfl)
theorem i_rng1' (a : E) : evI fs gs r (.rng1 a) = (evE fs gs r false a).bind fun x => (opt (wInt x)).bind fun j => opt (itRng 0 j) := (rfl)
theorem i_rng2' (a b : E) : evI fs gs r (.rng2 a b) = (evE fs gs r false a).bind fun x => (evE fs gs r false b).bind fun y => (opt (wInt x)).bind fun i => (opt (wInt y)).bind fun j => opt (itRng i j) := (rfl)
theorem i_enum' (a : E) : evI fs gs r (.enum a) = (evE fs gs r false a).bind fun x => opt (itEnum x) := (rfl)
theorem i_zip' (a b : E) : evI fs gs r (.zip a b) = (evE fs gs r false a).bind fun x => (evE fs gs r false b).bind fun y => opt (itZip x y) := (rfl)
theorem i_rev' (a : E) : evI fs gs r (.rev a) = (evE fs gs r false a).bind fun x => opt (itRev x) := (rfl)
/-! ### statements -/
def seqK (fs : Fns) (gs : List W) (fu : Nat) (ss : SL) : Fl × Env → M (Fl × Env) := fun q => match q.1 with
  | .nx => evSL fs gs fu ss q.2
  | f => .ret (f, q.2)
@[simp] theorem seqK_nx (ss : SL) (r : Env) : seqK fs gs fu ss (.nx, r) = evSL fs gs fu ss r := (rfl)
@[simp] theorem seqK_rt (ss : SL) (r : Env) (w : W) : seqK fs gs fu ss (.rt w, r) = .ret (.rt w, r) := (rfl)
@[simp] theorem seqK_bk (ss : SL) (r : Env) : seqK fs gs fu ss (.bk, r) = .ret (.bk, r) := (rfl)
@[simp] theorem seqK_ct (ss : SL) (r : Env) : seqK fs gs fu ss (.ct, r) = .ret (.ct, r) := (rfl)
def finK : Fl × Env → M W := fun q => match q.1 with
  | .rt w => .ret w
  | .nx => .ret (.d .none)
  | _ => .stuck
@[simp] theorem finK_rt (r : Env) (w : W) : finK (.rt w, r) = .ret w := (rfl)
@[simp] theorem finK_nx (r : Env) : finK (.nx, r) = .ret (.d .none) := (rfl)
def iteS (x : W) (a b : M (Fl × Env)) : M (Fl × Env) := (opt (wBool x)).bind fun k => if k = true then a else b
def asgK (tg : Tg) (e : E) (r : Env) (w : W) : M (Fl × Env) := (opt (asgE tg e w r)).bind fun r1 => .ret (.nx, r1)
def parK (is : List Nat) (es : EL) (r : Env) (ws : List W) : M (Fl × Env) := (opt (parE is es ws r)).bind fun r1 => .ret (.nx, r1)
def forR (fs : Fns) (gs : List W) (fu : Nat) (tg : Tg) (body : SL) (r : Env) (ws : List W) : M (Fl × Env) := forM (fun w r1 => (opt (asgT tg w r1)).bind fun r2 => evSL fs gs fu body r2) ws r
theorem d_run (n np : Nat) (body : SL) (ws : List W) (h : ws.length = np) : evD fs gs fu n np body ws = (evSL fs gs fu body (ws.map .sh ++ List.replicate (n - np) .no)).bind finK := by unfold evD; rw [if_pos h]; rfl
theorem s_nil' : evSL fs gs fu .nil r = .ret (.nx, r) := (rfl)
theorem s_cons' (s : S) (ss : SL) : evSL fs gs fu (.cons s ss) r = (evS fs gs fu s r).bind (seqK fs gs fu ss) := (rfl)
theorem t_asg (tg : Tg) (e : E) : evS fs gs fu (.asg tg e) r = (evE fs gs (dem r (escE false e)) false e).bind (asgK tg e (dem r (escE false e))) := (rfl)
theorem t_par (is : List Nat) (es : EL) : evS fs gs fu (.par is es) r = (evL fs gs (dem r (escL es)) es).bind (parK is es (dem r (escL es))) := (rfl)
theorem t_ret (e : E) : evS fs gs fu (.ret e) r = (evE fs gs (dem r (escE false e)) false e).bind fun w => .ret (.rt w, dem r (escE false e)) := (rfl)
theorem t_retN : evS fs gs fu .retN r = .ret (.rt (.d .none), r) := (rfl)
theorem t_ite (c : E) (a b : SL) : evS fs gs fu (.ite c a b) r = (evE fs gs (dem r (escE false c)) false c).bind fun x => iteS x (evSL fs gs fu a (dem r (escE false c))) (evSL fs gs fu b (dem r (escE false c))) := (rfl)
theorem t_for (tg : Tg) (it : It) (body : SL) : evS fs gs fu (.forr tg it body) r = (evI fs gs (dem r (escI it)) it).bind (forR fs gs fu tg body (dem r (escI it))) := (rfl)
theorem t_ex (e : E) : evS fs gs fu (.ex e) r = (evE fs gs (dem r (escE false e)) false e).bind fun _ => .ret (.nx, dem r (escE false e)) := (rfl)
theorem t_put (i : Nat) (k e : E) : evS fs gs fu (.put i k e) r = (evE fs gs (dem r (escE false k ++ escE false e)) false e).bind fun x => match ownAt (dem r (escE false k ++ escE false e)) i with
    | some w => (evE fs gs (dem r (escE false k ++ escE false e)) false k).bind fun y => (opt (putW w y x)).bind fun w2 => .ret (.nx, (dem r (escE false k ++ escE false e)).set i (.ow w2))
    | none => .stuck := (rfl)
theorem t_app (i : Nat) (e : E) : evS fs gs fu (.app i e) r = match ownL (dem r (escE false e)) i with
    | some ds => (evE fs gs (dem r (escE false e)) false e).bind fun x => (opt (appD ds x)).bind fun w2 => .ret (.nx, (dem r (escE false e)).set i (.ow w2))
    | none => .stuck := (rfl)
theorem t_ext (i : Nat) (e : E) : evS fs gs fu (.ext i e) r = match ownL (dem r (escE false e)) i with
    | some ds => (evE fs gs (dem r (escE false e)) false e).bind fun x => (opt (extD ds x)).bind fun w2 => .ret (.nx, (dem r (escE false e)).set i (.ow w2))
    | none => .stuck := (rfl)
theorem t_brk : evS fs gs fu .brk r = .ret (.bk, r) := (rfl)
theorem t_cnt : evS fs gs fu .cnt r = .ret (.ct, r) := (rfl)
end
/-! ### lists -/
theorem compM_map {α : Type} {step : W → M (Option PyData)} (g : α → W) (f : α → Option PyData) : ∀ {xs : List α} {acc : List PyData}, (∀ x ∈ xs, step (g x) = .ret (f x)) → compM step (xs.map g) acc = .ret (acc ++ xs.filterMap f)
  | [], acc, _ => by simp [compM]
  | x :: xs, acc, h => by
    rw [List.map_cons, compM_cons, h x List.mem_cons_self, M.bind_ret]
    cases hf : f x with
    | none =>
      simp only [List.filterMap_cons, hf]
      exact compM_map g f fun w hw => h w (List.mem_cons_of_mem _ hw)
    | some y =>
      simp only [List.filterMap_cons, hf]
      rw [compM_map g f fun w hw => h w (List.mem_cons_of_mem _ hw), List.append_assoc]
      rfl
theorem compR_of {α : Type} {fs : Fns} {gs : List W} {r : Env} {tg : Tg} {cs : EL} {elt : E} (g : α → W) (f : α → Option PyData) {xs : List α} (hl : xs.length ≤ cap) (h : ∀ x ∈ xs, stepC fs gs r tg cs elt (g x) = .ret (f x)) : compR fs gs r tg cs elt (xs.map g) = .ret (.d (.list (xs.filterMap f))) := by
  unfold compR
  rw [if_pos (by rw [List.length_map]; exact hl), compM_map g f h]
  rfl
@[simp] theorem ordW_int (op : Cop) (a b : Int) : ordW op (W.d (.int a)) (W.d (.int b)) = some (intB op a b) := rfl
@[simp] theorem eqW_int (a b : Int) : eqW (W.d (.int a)) (W.d (.int b)) = some (decide (a = b)) := by
  show some (a == b) = _
  congr 1
theorem shaped_tints (ns : List Int) : shaped (.tuple (ns.map PyData.int)) = true := shaped_ints ns
theorem any_ints (a : Int) (xs : List Int) : ((xs.map PyData.int).any fun z => PyData.eqv z (.int a)) = decide (a ∈ xs) := by
  induction xs with
  | nil => rfl
  | cons x xs ih =>
    rw [List.map_cons, List.any_cons, ih]
    show (x == a || decide (a ∈ xs)) = decide (a ∈ x :: xs)
    by_cases h : x = a
    · subst h; simp
    · have h2 : a ≠ x := fun z => h z.symm
      simp [h, h2]
@[simp] theorem inW_tints (a : Int) (xs : List Int) : inW (W.d (.int a)) (W.d (.tuple (xs.map PyData.int))) = some (decide (a ∈ xs)) := by
  unfold inW
  dsimp only
  rw [if_pos ⟨rfl, shaped_tints xs⟩, any_ints]
@[simp] theorem inW_lints (a : Int) (xs : List Int) : inW (W.d (.int a)) (W.d (.list (xs.map PyData.int))) = some (decide (a ∈ xs)) := by
  unfold inW
  dsimp only
  rw [if_pos ⟨rfl, shaped_ints xs⟩, any_ints]
abbrev tI (xs : List Int) : W := .d (.tuple (xs.map PyData.int))
def prD (p : Int × Int) : PyData := .tuple [.int p.1, .int p.2]
def csD (c : List Int) : PyData := .tuple (c.map PyData.int)
abbrev drW (n : Int) (ar : List (Int × Int)) (cs : List (List Int)) : W := .d (.tuple [.int n, .tuple (ar.map prD), .tuple (cs.map csD)])
theorem is_from_int {fs : Fns} {gs : List W} {fu : Nat} (x lo hi : Int) : evD fs gs fu 3 3 PB_is_from [.i x, .i lo, .i hi] = .ret (.b (decide (lo ≤ x) && decide (x ≤ hi))) := by
  rw [d_run 3 3 _ _ rfl]
  by_cases h1 : lo ≤ x <;> by_cases h2 : x ≤ hi <;> simp [PB_is_from, v_v, v_non, v_bl, v_int, v_str, v_gl, v_fn, v_tup, v_lst, v_dnew, v_bin, v_neg, v_cmp, v_chain, v_isN, v_notN, v_bop, v_b1, v_b2, v_not, v_ite, v_ix, v_sl, v_call, v_callk, v_callv, v_bi, v_isi, v_comp, itB, escB, l_nil, l_cons, o_nil, o_cons, c_nil', c_cons', i_of', i_rng1', i_rng2', i_enum', i_zip', i_rev', s_nil', s_cons', t_asg, t_par, t_ret, t_retN, t_ite, t_for, t_ex, t_put, t_app, t_ext, t_brk, t_cnt, cmpK, iteK, notK, bopK, tupK, lstK, iteS, asgK, parK, escE, escL, escI, dem, dem1, getN, binW, addW, mulW, int2, b1W, lenW, tupleW, listW, intW, isiW, ixW, cmpW, wBool, wInt, isNone, asgE, asgT, asgTs, Tg.is, TgL.is, wipeE, fresh, isBox, datas, W.data?, opt_some, opt_none, M.bind_ret, M.bind_stuck, M.nox_ret, itOf, itEnum, itZip, itRev, ownAt, ownL, W.i, W.b, List.map_cons, List.map_nil, List.set, List.getElem?_cons_zero, List.getElem?_cons_succ, List.length_cons, List.length_nil, List.replicate, List.append_nil, List.nil_append, List.cons_append, ite_true, ite_false, Bool.false_eq_true, reduceCtorEq, if_true, if_false, seqK_nx, seqK_rt, seqK_bk, seqK_ct, finK_rt, finK_nx, intB, h1, h2]
/-- a loop with an invariant -/
theorem forR_inv {fs : Fns} {gs : List W} {fu : Nat} {tg : Tg} {body : SL} {ws : List W} (I : Nat → Env → Prop) {r : Env} (h0 : I 0 r)
    (hs : ∀ (i : Nat) w r, ws[i]? = some w → I i r → ∃ r2 r3, asgT tg w r = some r2 ∧ evSL fs gs fu body r2 = .ret (.nx, r3) ∧ I (i + 1) r3) : ∃ r', forR fs gs fu tg body r ws = .ret (.nx, r') ∧ I ws.length r' := by
  have go : ∀ (rest : List W) (i : Nat) (r : Env), i + rest.length = ws.length → (∀ j w, rest[j]? = some w → ws[i + j]? = some w) → I i r → ∃ r', forR fs gs fu tg body r rest = .ret (.nx, r') ∧ I ws.length r' := by
    intro rest
    induction rest with
    | nil =>
      intro i r hl _ hi
      have : i = ws.length := by simpa using hl
      exact ⟨r, rfl, this ▸ hi⟩
    | cons w rest ih =>
      intro i r hl hw hi
      obtain ⟨r2, r3, h1, h2, h3⟩ := hs i w r (by simpa using hw 0 w rfl) hi
      obtain ⟨r', g1, g2⟩ := ih (i + 1) r3 (by rw [List.length_cons] at hl; omega) (fun j u hj => by
        have := hw (j + 1) u (by simpa using hj)
        rw [show i + 1 + j = i + (j + 1) by omega]
        exact this) h3
      refine ⟨r', ?_, g2⟩
      unfold forR at g1 ⊢
      rw [forM_cons]
      simp only [h1, opt_some, M.bind_ret, h2]
      exact g1
  exact go ws 0 r (by simp) (fun j w h => by simpa using h) h0
theorem applyF_at {fs : Fns} {i : Nat} {F : List W → M W} {ws : List W} (h : fs[i]? = some F) : applyF fs i ws = F ws := by unfold applyF; rw [h]
end DS

set_option Elab.async false
set_option linter.all false
set_option autoImplicit false
set_option maxRecDepth 100000
set_option maxHeartbeats 4000000
/-! DP1: what the defs over drawings come to. -/
namespace DS
open PySem PySem.Spec PySem.SeqAt PyProof.Rows L2
section
variable {fs : Fns} {gs : List W} {fu : Nat}
def IsFrom (fs : Fns) (i : Nat) : Prop := ∀ x lo hi : Int, applyF fs i [.i x, .i lo, .i hi] = .ret (.b (decide (lo ≤ x) && decide (x ≤ hi)))
/-- in range, ascending -/
structure SetOk (m : Int) (xs : List Int) : Prop where
  rng : ∀ x ∈ xs, 0 ≤ x ∧ x ≤ m
  asc : xs.Pairwise (· < ·)
  few : xs.length ≤ cap
theorem asc_zip {xs : List Int} (h : xs.Pairwise (· < ·)) : ∀ p ∈ xs.zip xs.tail, p.1 < p.2 := by
  induction xs with
  | nil => intro p hp; simp at hp
  | cons x xs ih =>
    intro p hp
    cases xs with
    | nil => simp at hp
    | cons y ys =>
      rw [List.tail_cons, List.zip_cons_cons] at hp
      rcases List.mem_cons.mp hp with rfl | hp
      · exact (List.pairwise_cons.mp h).1 y List.mem_cons_self
      · exact ih (List.pairwise_cons.mp h).2 p hp
theorem zip_ints (xs ys : List Int) : ((xs.map PyData.int).zip (ys.map PyData.int)).map (fun p => W.d (.tuple [p.1, p.2])) = (xs.zip ys).map fun p => W.d (prD p) := by
  rw [List.zip_map, List.map_map]; rfl
theorem filterMap_none {α β : Type} {f : α → Option β} {xs : List α} (h : ∀ x ∈ xs, f x = none) : xs.filterMap f = [] := by
  rw [List.filterMap_eq_nil_iff]; exact h
theorem cut1 (ds : List PyData) : cutD ds (some 1) none = ds.drop 1 := by
  unfold cutD
  have e1 : HT.sIx ds.length 0 (some 1) = min 1 ds.length := HT.sIx_nat ds.length 0 1
  rw [e1, HT.sIx_none]
  cases ds with
  | nil => rfl
  | cons d ds =>
    have : min 1 (d :: ds).length = 1 := by simp
    rw [this]
    show List.take ((d :: ds).length - 1) ds = ds
    rw [List.length_cons, Nat.add_sub_cancel, List.take_length]
theorem is_set_ok {i : Nat} (hf : IsFrom fs i) {m : Int} {xs : List Int} (h : SetOk m xs) : evD fs gs fu 5 2 (PB_is_set i) [tI xs, .i m] = .ret (.b true) := by
  rw [d_run 5 2 _ _ rfl]
  simp [PB_is_set, v_v, v_non, v_bl, v_int, v_str, v_gl, v_fn, v_tup, v_lst, v_dnew, v_bin, v_neg, v_cmp, v_chain, v_isN, v_notN, v_bop, v_b1, v_b2, v_not, v_ite, v_ix, v_sl, v_call, v_callk, v_callv, v_bi, v_isi, v_comp, itB, escB, l_nil, l_cons, o_nil, o_cons, c_nil', c_cons', i_of', i_rng1', i_rng2', i_enum', i_zip', i_rev', s_nil', s_cons', t_asg, t_par, t_ret, t_retN, t_ite, t_for, t_ex, t_put, t_app, t_ext, t_brk, t_cnt, cmpK, iteK, notK, bopK, tupK, lstK, iteS, asgK, parK, escE, escL, escI, dem, dem1, getN, binW, addW, mulW, int2, b1W, lenW, tupleW, listW, intW, isiW, ixW, cmpW, wBool, wInt, isNone, asgE, asgT, asgTs, Tg.is, TgL.is, wipeE, fresh, isBox, datas, W.data?, opt_some, opt_none, M.bind_ret, M.bind_stuck, M.nox_ret, itOf, itEnum, itZip, itRev, ownAt, ownL, W.i, W.b, List.map_cons, List.map_nil, List.set, List.getElem?_cons_zero, List.getElem?_cons_succ, List.length_cons, List.length_nil, List.replicate, List.append_nil, List.nil_append, List.cons_append, ite_true, ite_false, Bool.false_eq_true, reduceCtorEq, if_true, if_false, seqK_nx, seqK_rt, seqK_bk, seqK_ct, finK_rt, finK_nx, tI]
  rw [compR_of (W.d ∘ PyData.int) (fun _ => none) h.few]
  · simp [v_v, v_non, v_bl, v_int, v_str, v_gl, v_fn, v_tup, v_lst, v_dnew, v_bin, v_neg, v_cmp, v_chain, v_isN, v_notN, v_bop, v_b1, v_b2, v_not, v_ite, v_ix, v_sl, v_call, v_callk, v_callv, v_bi, v_isi, v_comp, itB, escB, l_nil, l_cons, o_nil, o_cons, c_nil', c_cons', i_of', i_rng1', i_rng2', i_enum', i_zip', i_rev', s_nil', s_cons', t_asg, t_par, t_ret, t_retN, t_ite, t_for, t_ex, t_put, t_app, t_ext, t_brk, t_cnt, cmpK, iteK, notK, bopK, tupK, lstK, iteS, asgK, parK, escE, escL, escI, dem, dem1, getN, binW, addW, mulW, int2, b1W, lenW, tupleW, listW, intW, isiW, ixW, cmpW, wBool, wInt, isNone, asgE, asgT, asgTs, Tg.is, TgL.is, wipeE, fresh, isBox, datas, W.data?, opt_some, opt_none, M.bind_ret, M.bind_stuck, M.nox_ret, itOf, itEnum, itZip, itRev, ownAt, ownL, W.i, W.b, List.map_cons, List.map_nil, List.set, List.getElem?_cons_zero, List.getElem?_cons_succ, List.length_cons, List.length_nil, List.replicate, List.append_nil, List.nil_append, List.cons_append, ite_true, ite_false, Bool.false_eq_true, reduceCtorEq, if_true, if_false, seqK_nx, seqK_rt, seqK_bk, seqK_ct, finK_rt, finK_nx, slW, cut1, intB]
    rw [← List.map_tail, zip_ints, compR_of (fun p => W.d (prD p)) (fun _ => none)]
    · simp [v_v, v_non, v_bl, v_int, v_str, v_gl, v_fn, v_tup, v_lst, v_dnew, v_bin, v_neg, v_cmp, v_chain, v_isN, v_notN, v_bop, v_b1, v_b2, v_not, v_ite, v_ix, v_sl, v_call, v_callk, v_callv, v_bi, v_isi, v_comp, itB, escB, l_nil, l_cons, o_nil, o_cons, c_nil', c_cons', i_of', i_rng1', i_rng2', i_enum', i_zip', i_rev', s_nil', s_cons', t_asg, t_par, t_ret, t_retN, t_ite, t_for, t_ex, t_put, t_app, t_ext, t_brk, t_cnt, cmpK, iteK, notK, bopK, tupK, lstK, iteS, asgK, parK, escE, escL, escI, dem, dem1, getN, binW, addW, mulW, int2, b1W, lenW, tupleW, listW, intW, isiW, ixW, cmpW, wBool, wInt, isNone, asgE, asgT, asgTs, Tg.is, TgL.is, wipeE, fresh, isBox, datas, W.data?, opt_some, opt_none, M.bind_ret, M.bind_stuck, M.nox_ret, itOf, itEnum, itZip, itRev, ownAt, ownL, W.i, W.b, List.map_cons, List.map_nil, List.set, List.getElem?_cons_zero, List.getElem?_cons_succ, List.length_cons, List.length_nil, List.replicate, List.append_nil, List.nil_append, List.cons_append, ite_true, ite_false, Bool.false_eq_true, reduceCtorEq, if_true, if_false, seqK_nx, seqK_rt, seqK_bk, seqK_ct, finK_rt, finK_nx]
    · rw [List.length_zip]
      have := h.few
      omega
    · intro p hp
      have := asc_zip h.asc p hp
      simp [stepC, v_v, v_non, v_bl, v_int, v_str, v_gl, v_fn, v_tup, v_lst, v_dnew, v_bin, v_neg, v_cmp, v_chain, v_isN, v_notN, v_bop, v_b1, v_b2, v_not, v_ite, v_ix, v_sl, v_call, v_callk, v_callv, v_bi, v_isi, v_comp, itB, escB, l_nil, l_cons, o_nil, o_cons, c_nil', c_cons', i_of', i_rng1', i_rng2', i_enum', i_zip', i_rev', s_nil', s_cons', t_asg, t_par, t_ret, t_retN, t_ite, t_for, t_ex, t_put, t_app, t_ext, t_brk, t_cnt, cmpK, iteK, notK, bopK, tupK, lstK, iteS, asgK, parK, escE, escL, escI, dem, dem1, getN, binW, addW, mulW, int2, b1W, lenW, tupleW, listW, intW, isiW, ixW, cmpW, wBool, wInt, isNone, asgE, asgT, asgTs, Tg.is, TgL.is, wipeE, fresh, isBox, datas, W.data?, opt_some, opt_none, M.bind_ret, M.bind_stuck, M.nox_ret, itOf, itEnum, itZip, itRev, ownAt, ownL, W.i, W.b, List.map_cons, List.map_nil, List.set, List.getElem?_cons_zero, List.getElem?_cons_succ, List.length_cons, List.length_nil, List.replicate, List.append_nil, List.nil_append, List.cons_append, ite_true, ite_false, Bool.false_eq_true, reduceCtorEq, if_true, if_false, seqK_nx, seqK_rt, seqK_bk, seqK_ct, finK_rt, finK_nx, prD, intB, this]
  · intro x hx
    have := h.rng x hx
    have e : applyF fs i [W.d (PyData.int x), W.d (PyData.int 0), W.d (PyData.int m)] = _ := hf x 0 m
    simp [stepC, v_v, v_non, v_bl, v_int, v_str, v_gl, v_fn, v_tup, v_lst, v_dnew, v_bin, v_neg, v_cmp, v_chain, v_isN, v_notN, v_bop, v_b1, v_b2, v_not, v_ite, v_ix, v_sl, v_call, v_callk, v_callv, v_bi, v_isi, v_comp, itB, escB, l_nil, l_cons, o_nil, o_cons, c_nil', c_cons', i_of', i_rng1', i_rng2', i_enum', i_zip', i_rev', s_nil', s_cons', t_asg, t_par, t_ret, t_retN, t_ite, t_for, t_ex, t_put, t_app, t_ext, t_brk, t_cnt, cmpK, iteK, notK, bopK, tupK, lstK, iteS, asgK, parK, escE, escL, escI, dem, dem1, getN, binW, addW, mulW, int2, b1W, lenW, tupleW, listW, intW, isiW, ixW, cmpW, wBool, wInt, isNone, asgE, asgT, asgTs, Tg.is, TgL.is, wipeE, fresh, isBox, datas, W.data?, opt_some, opt_none, M.bind_ret, M.bind_stuck, M.nox_ret, itOf, itEnum, itZip, itRev, ownAt, ownL, W.i, W.b, List.map_cons, List.map_nil, List.set, List.getElem?_cons_zero, List.getElem?_cons_succ, List.length_cons, List.length_nil, List.replicate, List.append_nil, List.nil_append, List.cons_append, ite_true, ite_false, Bool.false_eq_true, reduceCtorEq, if_true, if_false, seqK_nx, seqK_rt, seqK_bk, seqK_ct, finK_rt, finK_nx, e, this]

/-! ### drawings -/
def ArrowOk (n : Int) (p : Int × Int) : Prop := 0 ≤ p.1 ∧ p.1 < p.2 ∧ p.2 ≤ n - 1
theorem is_arrow_ok {i : Nat} (hf : IsFrom fs i) {n : Int} {p : Int × Int} (h : ArrowOk n p) : evD fs gs fu 2 2 (PB_is_arrow i) [.i n, .d (prD p)] = .ret (.b true) := by
  rw [d_run 2 2 _ _ rfl]
  obtain ⟨a, b⟩ := p
  obtain ⟨h1, h2, h3⟩ := h
  have e1 : applyF fs i [W.d (PyData.int a), W.d (PyData.int 0), W.d (PyData.int (n - 1))] = _ := hf a 0 (n - 1)
  have e2 : applyF fs i [W.d (PyData.int b), W.d (PyData.int (a + 1)), W.d (PyData.int (n - 1))] = _ := hf b (a + 1) (n - 1)
  have a0 : atI [PyData.int a, PyData.int b] 0 = some (.int a) := rfl
  have a1 : atI [PyData.int a, PyData.int b] 1 = some (.int b) := rfl
  dsimp only at h1 h2 h3
  have h4 : a ≤ n - 1 := by omega
  have h5 : a + 1 ≤ b := by omega
  simp [PB_is_arrow, v_v, v_non, v_bl, v_int, v_str, v_gl, v_fn, v_tup, v_lst, v_dnew, v_bin, v_neg, v_cmp, v_chain, v_isN, v_notN, v_bop, v_b1, v_b2, v_not, v_ite, v_ix, v_sl, v_call, v_callk, v_callv, v_bi, v_isi, v_comp, itB, escB, l_nil, l_cons, o_nil, o_cons, c_nil', c_cons', i_of', i_rng1', i_rng2', i_enum', i_zip', i_rev', s_nil', s_cons', t_asg, t_par, t_ret, t_retN, t_ite, t_for, t_ex, t_put, t_app, t_ext, t_brk, t_cnt, cmpK, iteK, notK, bopK, tupK, lstK, iteS, asgK, parK, escE, escL, escI, dem, dem1, getN, binW, addW, mulW, int2, b1W, lenW, tupleW, listW, intW, isiW, ixW, cmpW, wBool, wInt, isNone, asgE, asgT, asgTs, Tg.is, TgL.is, wipeE, fresh, isBox, datas, W.data?, opt_some, opt_none, M.bind_ret, M.bind_stuck, M.nox_ret, itOf, itEnum, itZip, itRev, ownAt, ownL, W.i, W.b, List.map_cons, List.map_nil, List.set, List.getElem?_cons_zero, List.getElem?_cons_succ, List.length_cons, List.length_nil, List.replicate, List.append_nil, List.nil_append, List.cons_append, ite_true, ite_false, Bool.false_eq_true, reduceCtorEq, if_true, if_false, seqK_nx, seqK_rt, seqK_bk, seqK_ct, finK_rt, finK_nx, prD, e1, e2, a0, a1, h1, h3, h4, h5]
theorem is_within_ok {xs ys : List Int} (hl : ys.length ≤ cap) (h : ∀ y ∈ ys, y ∈ xs) : evD fs gs fu 3 2 PB_is_within [tI xs, tI ys] = .ret (.b true) := by
  rw [d_run 3 2 _ _ rfl]
  simp [PB_is_within, v_v, v_non, v_bl, v_int, v_str, v_gl, v_fn, v_tup, v_lst, v_dnew, v_bin, v_neg, v_cmp, v_chain, v_isN, v_notN, v_bop, v_b1, v_b2, v_not, v_ite, v_ix, v_sl, v_call, v_callk, v_callv, v_bi, v_isi, v_comp, itB, escB, l_nil, l_cons, o_nil, o_cons, c_nil', c_cons', i_of', i_rng1', i_rng2', i_enum', i_zip', i_rev', s_nil', s_cons', t_asg, t_par, t_ret, t_retN, t_ite, t_for, t_ex, t_put, t_app, t_ext, t_brk, t_cnt, cmpK, iteK, notK, bopK, tupK, lstK, iteS, asgK, parK, escE, escL, escI, dem, dem1, getN, binW, addW, mulW, int2, b1W, lenW, tupleW, listW, intW, isiW, ixW, cmpW, wBool, wInt, isNone, asgE, asgT, asgTs, Tg.is, TgL.is, wipeE, fresh, isBox, datas, W.data?, opt_some, opt_none, M.bind_ret, M.bind_stuck, M.nox_ret, itOf, itEnum, itZip, itRev, ownAt, ownL, W.i, W.b, List.map_cons, List.map_nil, List.set, List.getElem?_cons_zero, List.getElem?_cons_succ, List.length_cons, List.length_nil, List.replicate, List.append_nil, List.nil_append, List.cons_append, ite_true, ite_false, Bool.false_eq_true, reduceCtorEq, if_true, if_false, seqK_nx, seqK_rt, seqK_bk, seqK_ct, finK_rt, finK_nx, tI]
  rw [compR_of (W.d ∘ PyData.int) (fun _ => none) hl]
  · simp [v_v, v_non, v_bl, v_int, v_str, v_gl, v_fn, v_tup, v_lst, v_dnew, v_bin, v_neg, v_cmp, v_chain, v_isN, v_notN, v_bop, v_b1, v_b2, v_not, v_ite, v_ix, v_sl, v_call, v_callk, v_callv, v_bi, v_isi, v_comp, itB, escB, l_nil, l_cons, o_nil, o_cons, c_nil', c_cons', i_of', i_rng1', i_rng2', i_enum', i_zip', i_rev', s_nil', s_cons', t_asg, t_par, t_ret, t_retN, t_ite, t_for, t_ex, t_put, t_app, t_ext, t_brk, t_cnt, cmpK, iteK, notK, bopK, tupK, lstK, iteS, asgK, parK, escE, escL, escI, dem, dem1, getN, binW, addW, mulW, int2, b1W, lenW, tupleW, listW, intW, isiW, ixW, cmpW, wBool, wInt, isNone, asgE, asgT, asgTs, Tg.is, TgL.is, wipeE, fresh, isBox, datas, W.data?, opt_some, opt_none, M.bind_ret, M.bind_stuck, M.nox_ret, itOf, itEnum, itZip, itRev, ownAt, ownL, W.i, W.b, List.map_cons, List.map_nil, List.set, List.getElem?_cons_zero, List.getElem?_cons_succ, List.length_cons, List.length_nil, List.replicate, List.append_nil, List.nil_append, List.cons_append, ite_true, ite_false, Bool.false_eq_true, reduceCtorEq, if_true, if_false, seqK_nx, seqK_rt, seqK_bk, seqK_ct, finK_rt, finK_nx]
  · intro x hx
    simp [stepC, v_v, v_non, v_bl, v_int, v_str, v_gl, v_fn, v_tup, v_lst, v_dnew, v_bin, v_neg, v_cmp, v_chain, v_isN, v_notN, v_bop, v_b1, v_b2, v_not, v_ite, v_ix, v_sl, v_call, v_callk, v_callv, v_bi, v_isi, v_comp, itB, escB, l_nil, l_cons, o_nil, o_cons, c_nil', c_cons', i_of', i_rng1', i_rng2', i_enum', i_zip', i_rev', s_nil', s_cons', t_asg, t_par, t_ret, t_retN, t_ite, t_for, t_ex, t_put, t_app, t_ext, t_brk, t_cnt, cmpK, iteK, notK, bopK, tupK, lstK, iteS, asgK, parK, escE, escL, escI, dem, dem1, getN, binW, addW, mulW, int2, b1W, lenW, tupleW, listW, intW, isiW, ixW, cmpW, wBool, wInt, isNone, asgE, asgT, asgTs, Tg.is, TgL.is, wipeE, fresh, isBox, datas, W.data?, opt_some, opt_none, M.bind_ret, M.bind_stuck, M.nox_ret, itOf, itEnum, itZip, itRev, ownAt, ownL, W.i, W.b, List.map_cons, List.map_nil, List.set, List.getElem?_cons_zero, List.getElem?_cons_succ, List.length_cons, List.length_nil, List.replicate, List.append_nil, List.nil_append, List.cons_append, ite_true, ite_false, Bool.false_eq_true, reduceCtorEq, if_true, if_false, seqK_nx, seqK_rt, seqK_bk, seqK_ct, finK_rt, finK_nx, h x hx]
theorem less_so_ok {xs ys : List Int} (hl : xs.length ≤ cap) : evD fs gs fu 3 2 PB_less_so [tI xs, tI ys] = .ret (tI (xs.filter fun x => decide (x ∉ ys))) := by
  rw [d_run 3 2 _ _ rfl]
  simp [PB_less_so, v_v, v_non, v_bl, v_int, v_str, v_gl, v_fn, v_tup, v_lst, v_dnew, v_bin, v_neg, v_cmp, v_chain, v_isN, v_notN, v_bop, v_b1, v_b2, v_not, v_ite, v_ix, v_sl, v_call, v_callk, v_callv, v_bi, v_isi, v_comp, itB, escB, l_nil, l_cons, o_nil, o_cons, c_nil', c_cons', i_of', i_rng1', i_rng2', i_enum', i_zip', i_rev', s_nil', s_cons', t_asg, t_par, t_ret, t_retN, t_ite, t_for, t_ex, t_put, t_app, t_ext, t_brk, t_cnt, cmpK, iteK, notK, bopK, tupK, lstK, iteS, asgK, parK, escE, escL, escI, dem, dem1, getN, binW, addW, mulW, int2, b1W, lenW, tupleW, listW, intW, isiW, ixW, cmpW, wBool, wInt, isNone, asgE, asgT, asgTs, Tg.is, TgL.is, wipeE, fresh, isBox, datas, W.data?, opt_some, opt_none, M.bind_ret, M.bind_stuck, M.nox_ret, itOf, itEnum, itZip, itRev, ownAt, ownL, W.i, W.b, List.map_cons, List.map_nil, List.set, List.getElem?_cons_zero, List.getElem?_cons_succ, List.length_cons, List.length_nil, List.replicate, List.append_nil, List.nil_append, List.cons_append, ite_true, ite_false, Bool.false_eq_true, reduceCtorEq, if_true, if_false, seqK_nx, seqK_rt, seqK_bk, seqK_ct, finK_rt, finK_nx, tI]
  rw [compR_of (W.d ∘ PyData.int) (fun x => if x ∈ ys then none else some (.int x)) hl]
  · simp [v_v, v_non, v_bl, v_int, v_str, v_gl, v_fn, v_tup, v_lst, v_dnew, v_bin, v_neg, v_cmp, v_chain, v_isN, v_notN, v_bop, v_b1, v_b2, v_not, v_ite, v_ix, v_sl, v_call, v_callk, v_callv, v_bi, v_isi, v_comp, itB, escB, l_nil, l_cons, o_nil, o_cons, c_nil', c_cons', i_of', i_rng1', i_rng2', i_enum', i_zip', i_rev', s_nil', s_cons', t_asg, t_par, t_ret, t_retN, t_ite, t_for, t_ex, t_put, t_app, t_ext, t_brk, t_cnt, cmpK, iteK, notK, bopK, tupK, lstK, iteS, asgK, parK, escE, escL, escI, dem, dem1, getN, binW, addW, mulW, int2, b1W, lenW, tupleW, listW, intW, isiW, ixW, cmpW, wBool, wInt, isNone, asgE, asgT, asgTs, Tg.is, TgL.is, wipeE, fresh, isBox, datas, W.data?, opt_some, opt_none, M.bind_ret, M.bind_stuck, M.nox_ret, itOf, itEnum, itZip, itRev, ownAt, ownL, W.i, W.b, List.map_cons, List.map_nil, List.set, List.getElem?_cons_zero, List.getElem?_cons_succ, List.length_cons, List.length_nil, List.replicate, List.append_nil, List.nil_append, List.cons_append, ite_true, ite_false, Bool.false_eq_true, reduceCtorEq, if_true, if_false, seqK_nx, seqK_rt, seqK_bk, seqK_ct, finK_rt, finK_nx]
    induction xs with
    | nil => rfl
    | cons x xs ih =>
      have := ih (by rw [List.length_cons] at hl; omega)
      by_cases hx : x ∈ ys <;> simp [List.filterMap_cons, List.filter_cons, hx, this]
  · intro x hx
    by_cases h : x ∈ ys <;> simp [stepC, v_v, v_non, v_bl, v_int, v_str, v_gl, v_fn, v_tup, v_lst, v_dnew, v_bin, v_neg, v_cmp, v_chain, v_isN, v_notN, v_bop, v_b1, v_b2, v_not, v_ite, v_ix, v_sl, v_call, v_callk, v_callv, v_bi, v_isi, v_comp, itB, escB, l_nil, l_cons, o_nil, o_cons, c_nil', c_cons', i_of', i_rng1', i_rng2', i_enum', i_zip', i_rev', s_nil', s_cons', t_asg, t_par, t_ret, t_retN, t_ite, t_for, t_ex, t_put, t_app, t_ext, t_brk, t_cnt, cmpK, iteK, notK, bopK, tupK, lstK, iteS, asgK, parK, escE, escL, escI, dem, dem1, getN, binW, addW, mulW, int2, b1W, lenW, tupleW, listW, intW, isiW, ixW, cmpW, wBool, wInt, isNone, asgE, asgT, asgTs, Tg.is, TgL.is, wipeE, fresh, isBox, datas, W.data?, opt_some, opt_none, M.bind_ret, M.bind_stuck, M.nox_ret, itOf, itEnum, itZip, itRev, ownAt, ownL, W.i, W.b, List.map_cons, List.map_nil, List.set, List.getElem?_cons_zero, List.getElem?_cons_succ, List.length_cons, List.length_nil, List.replicate, List.append_nil, List.nil_append, List.cons_append, ite_true, ite_false, Bool.false_eq_true, reduceCtorEq, if_true, if_false, seqK_nx, seqK_rt, seqK_bk, seqK_ct, finK_rt, finK_nx, h]
/-- 0, 1, .. -/
def upto (n : Int) : List Int := (List.range n.toNat).map fun (k : Nat) => (k : Int)
theorem every_so_ok {n : Int} {ar : List (Int × Int)} {cs : List (List Int)} (h0 : 0 ≤ n) (h1 : n ≤ cap) : evD fs gs fu 1 1 PB_every_so [drW n ar cs] = .ret (tI (upto n)) := by
  rw [d_run 1 1 _ _ rfl]
  have a0 : atI [PyData.int n, PyData.tuple (ar.map prD), PyData.tuple (cs.map csD)] 0 = some (.int n) := rfl
  simp [PB_every_so, v_v, v_non, v_bl, v_int, v_str, v_gl, v_fn, v_tup, v_lst, v_dnew, v_bin, v_neg, v_cmp, v_chain, v_isN, v_notN, v_bop, v_b1, v_b2, v_not, v_ite, v_ix, v_sl, v_call, v_callk, v_callv, v_bi, v_isi, v_comp, itB, escB, l_nil, l_cons, o_nil, o_cons, c_nil', c_cons', i_of', i_rng1', i_rng2', i_enum', i_zip', i_rev', s_nil', s_cons', t_asg, t_par, t_ret, t_retN, t_ite, t_for, t_ex, t_put, t_app, t_ext, t_brk, t_cnt, cmpK, iteK, notK, bopK, tupK, lstK, iteS, asgK, parK, escE, escL, escI, dem, dem1, getN, binW, addW, mulW, int2, b1W, lenW, tupleW, listW, intW, isiW, ixW, cmpW, wBool, wInt, isNone, asgE, asgT, asgTs, Tg.is, TgL.is, wipeE, fresh, isBox, datas, W.data?, opt_some, opt_none, M.bind_ret, M.bind_stuck, M.nox_ret, itOf, itEnum, itZip, itRev, ownAt, ownL, W.i, W.b, List.map_cons, List.map_nil, List.set, List.getElem?_cons_zero, List.getElem?_cons_succ, List.length_cons, List.length_nil, List.replicate, List.append_nil, List.nil_append, List.cons_append, ite_true, ite_false, Bool.false_eq_true, reduceCtorEq, if_true, if_false, seqK_nx, seqK_rt, seqK_bk, seqK_ct, finK_rt, finK_nx, drW, a0, rangeW, h0, h1, upto, tI]
/-- the things that an arrow of x leads to -/
def outs (ar : List (Int × Int)) (lot : List Int) (x : Int) : List Int := ar.filterMap fun p => if p.1 = x ∧ p.2 ∈ lot then some p.2 else none
theorem children_so_ok {n x : Int} {ar : List (Int × Int)} {cs : List (List Int)} {lot : List Int} (hl : ar.length ≤ cap) : evD fs gs fu 5 3 PB_children_so [drW n ar cs, tI lot, .i x] = .ret (tI (outs ar lot x)) := by
  rw [d_run 5 3 _ _ rfl]
  have a1 : atI [PyData.int n, PyData.tuple (ar.map prD), PyData.tuple (cs.map csD)] 1 = some (.tuple (ar.map prD)) := rfl
  simp [PB_children_so, v_v, v_non, v_bl, v_int, v_str, v_gl, v_fn, v_tup, v_lst, v_dnew, v_bin, v_neg, v_cmp, v_chain, v_isN, v_notN, v_bop, v_b1, v_b2, v_not, v_ite, v_ix, v_sl, v_call, v_callk, v_callv, v_bi, v_isi, v_comp, itB, escB, l_nil, l_cons, o_nil, o_cons, c_nil', c_cons', i_of', i_rng1', i_rng2', i_enum', i_zip', i_rev', s_nil', s_cons', t_asg, t_par, t_ret, t_retN, t_ite, t_for, t_ex, t_put, t_app, t_ext, t_brk, t_cnt, cmpK, iteK, notK, bopK, tupK, lstK, iteS, asgK, parK, escE, escL, escI, dem, dem1, getN, binW, addW, mulW, int2, b1W, lenW, tupleW, listW, intW, isiW, ixW, cmpW, wBool, wInt, isNone, asgE, asgT, asgTs, Tg.is, TgL.is, wipeE, fresh, isBox, datas, W.data?, opt_some, opt_none, M.bind_ret, M.bind_stuck, M.nox_ret, itOf, itEnum, itZip, itRev, ownAt, ownL, W.i, W.b, List.map_cons, List.map_nil, List.set, List.getElem?_cons_zero, List.getElem?_cons_succ, List.length_cons, List.length_nil, List.replicate, List.append_nil, List.nil_append, List.cons_append, ite_true, ite_false, Bool.false_eq_true, reduceCtorEq, if_true, if_false, seqK_nx, seqK_rt, seqK_bk, seqK_ct, finK_rt, finK_nx, drW, a1, tI]
  rw [compR_of (W.d ∘ prD) (fun p => if p.1 = x ∧ p.2 ∈ lot then some (.int p.2) else none) hl]
  · simp [v_v, v_non, v_bl, v_int, v_str, v_gl, v_fn, v_tup, v_lst, v_dnew, v_bin, v_neg, v_cmp, v_chain, v_isN, v_notN, v_bop, v_b1, v_b2, v_not, v_ite, v_ix, v_sl, v_call, v_callk, v_callv, v_bi, v_isi, v_comp, itB, escB, l_nil, l_cons, o_nil, o_cons, c_nil', c_cons', i_of', i_rng1', i_rng2', i_enum', i_zip', i_rev', s_nil', s_cons', t_asg, t_par, t_ret, t_retN, t_ite, t_for, t_ex, t_put, t_app, t_ext, t_brk, t_cnt, cmpK, iteK, notK, bopK, tupK, lstK, iteS, asgK, parK, escE, escL, escI, dem, dem1, getN, binW, addW, mulW, int2, b1W, lenW, tupleW, listW, intW, isiW, ixW, cmpW, wBool, wInt, isNone, asgE, asgT, asgTs, Tg.is, TgL.is, wipeE, fresh, isBox, datas, W.data?, opt_some, opt_none, M.bind_ret, M.bind_stuck, M.nox_ret, itOf, itEnum, itZip, itRev, ownAt, ownL, W.i, W.b, List.map_cons, List.map_nil, List.set, List.getElem?_cons_zero, List.getElem?_cons_succ, List.length_cons, List.length_nil, List.replicate, List.append_nil, List.nil_append, List.cons_append, ite_true, ite_false, Bool.false_eq_true, reduceCtorEq, if_true, if_false, seqK_nx, seqK_rt, seqK_bk, seqK_ct, finK_rt, finK_nx, outs, List.map_filterMap]
  · intro p hp
    by_cases h : p.1 = x <;> by_cases h2 : p.2 ∈ lot <;> simp [stepC, v_v, v_non, v_bl, v_int, v_str, v_gl, v_fn, v_tup, v_lst, v_dnew, v_bin, v_neg, v_cmp, v_chain, v_isN, v_notN, v_bop, v_b1, v_b2, v_not, v_ite, v_ix, v_sl, v_call, v_callk, v_callv, v_bi, v_isi, v_comp, itB, escB, l_nil, l_cons, o_nil, o_cons, c_nil', c_cons', i_of', i_rng1', i_rng2', i_enum', i_zip', i_rev', s_nil', s_cons', t_asg, t_par, t_ret, t_retN, t_ite, t_for, t_ex, t_put, t_app, t_ext, t_brk, t_cnt, cmpK, iteK, notK, bopK, tupK, lstK, iteS, asgK, parK, escE, escL, escI, dem, dem1, getN, binW, addW, mulW, int2, b1W, lenW, tupleW, listW, intW, isiW, ixW, cmpW, wBool, wInt, isNone, asgE, asgT, asgTs, Tg.is, TgL.is, wipeE, fresh, isBox, datas, W.data?, opt_some, opt_none, M.bind_ret, M.bind_stuck, M.nox_ret, itOf, itEnum, itZip, itRev, ownAt, ownL, W.i, W.b, List.map_cons, List.map_nil, List.set, List.getElem?_cons_zero, List.getElem?_cons_succ, List.length_cons, List.length_nil, List.replicate, List.append_nil, List.nil_append, List.cons_append, ite_true, ite_false, Bool.false_eq_true, reduceCtorEq, if_true, if_false, seqK_nx, seqK_rt, seqK_bk, seqK_ct, finK_rt, finK_nx, prD, h, h2]

/-! ### checks -/
def Ascend (ds : List PyData) : Prop := ∀ (i : Nat) d e, ds[i]? = some d → ds[i + 1]? = some e → ordW .ge (.d d) (.d e) = some false
theorem atI_nat {α : Type} {ds : List α} {i : Nat} {d : α} (h : ds[i]? = some d) : atI ds (i : Int) = some d := by
  have hi := get_lt' h
  unfold atI ixN
  rw [if_pos (by omega), if_pos (by omega)]
  show ds[(i : Int).toNat]? = some d
  rw [Int.toNat_natCast]
  exact h
theorem check_items_ok {j : Nat} {n : Int} {ds : List PyData} {pl : W} (hj : j < fs.length) (hd : ∀ d ∈ ds, applyF fs j [.i n, .d d] = .ret (.b true)) (ha : Ascend ds) : evD fs gs fu 6 4 PB_check_items [.i n, .d (.tuple ds), pl, .fn j] = .ret (.d .none) := by
  rw [d_run 6 4 _ _ rfl]
  obtain ⟨r', h1, _⟩ := forR_inv (fs := fs) (gs := gs) (fu := fu) (tg := .t (.cons (.n 4) (.cons (.n 5) .nil))) (ws := enumD ds)
    (body := (.cons (.ite (.bop false (.cons (.not (.callv 3 (.cons (.v 0) (.cons (.v 5) .nil)))) (.cons (.bop true (.cons (.cmp .gt (.v 4) (.int 0)) (.cons (.cmp .ge (.ix (.v 1) (.bin .sub (.v 4) (.int 1))) (.v 5)) .nil))) .nil))) (.cons .rse .nil) .nil) .nil))
    (fun i r => ∃ c4 c5, r = [.sh (.i n), .sh (.d (.tuple ds)), .sh pl, .sh (.fn j), c4, c5]) (r := [.sh (.i n), .sh (.d (.tuple ds)), .sh pl, .sh (.fn j), .no, .no]) ⟨_, _, rfl⟩ (fun i w r hw ⟨c4, c5, hr⟩ => by
      subst hr
      rw [enum_get] at hw
      cases hd2 : ds[i]? with
      | none => rw [hd2] at hw; cases hw
      | some d =>
        rw [hd2] at hw
        cases hw
        refine ⟨[.sh (.i n), .sh (.d (.tuple ds)), .sh pl, .sh (.fn j), .sh (.i i), .sh (.d d)], [.sh (.i n), .sh (.d (.tuple ds)), .sh pl, .sh (.fn j), .sh (.i i), .sh (.d d)], rfl, ?_, _, _, rfl⟩
        have e1 : applyF fs j [W.d (PyData.int n), W.d d] = _ := hd d (List.mem_of_getElem? hd2)
        cases i with
        | zero => simp [v_v, v_non, v_bl, v_int, v_str, v_gl, v_fn, v_tup, v_lst, v_dnew, v_bin, v_neg, v_cmp, v_chain, v_isN, v_notN, v_bop, v_b1, v_b2, v_not, v_ite, v_ix, v_sl, v_call, v_callk, v_callv, v_bi, v_isi, v_comp, itB, escB, l_nil, l_cons, o_nil, o_cons, c_nil', c_cons', i_of', i_rng1', i_rng2', i_enum', i_zip', i_rev', s_nil', s_cons', t_asg, t_par, t_ret, t_retN, t_ite, t_for, t_ex, t_put, t_app, t_ext, t_brk, t_cnt, cmpK, iteK, notK, bopK, tupK, lstK, iteS, asgK, parK, escE, escL, escI, dem, dem1, getN, binW, addW, mulW, int2, b1W, lenW, tupleW, listW, intW, isiW, ixW, cmpW, wBool, wInt, isNone, asgE, asgT, asgTs, Tg.is, TgL.is, wipeE, fresh, isBox, datas, W.data?, opt_some, opt_none, M.bind_ret, M.bind_stuck, M.nox_ret, itOf, itEnum, itZip, itRev, ownAt, ownL, W.i, W.b, List.map_cons, List.map_nil, List.set, List.getElem?_cons_zero, List.getElem?_cons_succ, List.length_cons, List.length_nil, List.replicate, List.append_nil, List.nil_append, List.cons_append, ite_true, ite_false, Bool.false_eq_true, reduceCtorEq, if_true, if_false, seqK_nx, seqK_rt, seqK_bk, seqK_ct, finK_rt, finK_nx, callW, hj, e1, intB]
        | succ i =>
          obtain ⟨e, he⟩ : ∃ e, ds[i]? = some e := ⟨_, List.getElem?_eq_getElem (by have := get_lt' hd2; omega)⟩
          have e2 : atI ds (i : Int) = some e := atI_nat he
          have e3 := ha i e d he hd2
          have e4 : (0 : Int) < (i : Int) + 1 := by omega
          simp [v_v, v_non, v_bl, v_int, v_str, v_gl, v_fn, v_tup, v_lst, v_dnew, v_bin, v_neg, v_cmp, v_chain, v_isN, v_notN, v_bop, v_b1, v_b2, v_not, v_ite, v_ix, v_sl, v_call, v_callk, v_callv, v_bi, v_isi, v_comp, itB, escB, l_nil, l_cons, o_nil, o_cons, c_nil', c_cons', i_of', i_rng1', i_rng2', i_enum', i_zip', i_rev', s_nil', s_cons', t_asg, t_par, t_ret, t_retN, t_ite, t_for, t_ex, t_put, t_app, t_ext, t_brk, t_cnt, cmpK, iteK, notK, bopK, tupK, lstK, iteS, asgK, parK, escE, escL, escI, dem, dem1, getN, binW, addW, mulW, int2, b1W, lenW, tupleW, listW, intW, isiW, ixW, cmpW, wBool, wInt, isNone, asgE, asgT, asgTs, Tg.is, TgL.is, wipeE, fresh, isBox, datas, W.data?, opt_some, opt_none, M.bind_ret, M.bind_stuck, M.nox_ret, itOf, itEnum, itZip, itRev, ownAt, ownL, W.i, W.b, List.map_cons, List.map_nil, List.set, List.getElem?_cons_zero, List.getElem?_cons_succ, List.length_cons, List.length_nil, List.replicate, List.append_nil, List.nil_append, List.cons_append, ite_true, ite_false, Bool.false_eq_true, reduceCtorEq, if_true, if_false, seqK_nx, seqK_rt, seqK_bk, seqK_ct, finK_rt, finK_nx, callW, hj, e1, intB, e2, e3, e4])
  simp [PB_check_items, v_v, v_non, v_bl, v_int, v_str, v_gl, v_fn, v_tup, v_lst, v_dnew, v_bin, v_neg, v_cmp, v_chain, v_isN, v_notN, v_bop, v_b1, v_b2, v_not, v_ite, v_ix, v_sl, v_call, v_callk, v_callv, v_bi, v_isi, v_comp, itB, escB, l_nil, l_cons, o_nil, o_cons, c_nil', c_cons', i_of', i_rng1', i_rng2', i_enum', i_zip', i_rev', s_nil', s_cons', t_asg, t_par, t_ret, t_retN, t_ite, t_for, t_ex, t_put, t_app, t_ext, t_brk, t_cnt, cmpK, iteK, notK, bopK, tupK, lstK, iteS, asgK, parK, escE, escL, escI, dem, dem1, getN, binW, addW, mulW, int2, b1W, lenW, tupleW, listW, intW, isiW, ixW, cmpW, wBool, wInt, isNone, asgE, asgT, asgTs, Tg.is, TgL.is, wipeE, fresh, isBox, datas, W.data?, opt_some, opt_none, M.bind_ret, M.bind_stuck, M.nox_ret, itOf, itEnum, itZip, itRev, ownAt, ownL, W.i, W.b, List.map_cons, List.map_nil, List.set, List.getElem?_cons_zero, List.getElem?_cons_succ, List.length_cons, List.length_nil, List.replicate, List.append_nil, List.nil_append, List.cons_append, ite_true, ite_false, Bool.false_eq_true, reduceCtorEq, if_true, if_false, seqK_nx, seqK_rt, seqK_bk, seqK_ct, finK_rt, finK_nx]
  simp only [W.i] at h1
  rw [h1]
  rfl
theorem ord_pair {p q : Int × Int} (h : p.1 < q.1 ∨ (p.1 = q.1 ∧ p.2 < q.2)) : ordW .ge (.d (prD p)) (.d (prD q)) = some false := by
  obtain ⟨a, b⟩ := p
  obtain ⟨c, d⟩ := q
  dsimp only at h
  show (if shaped (prD (a, b)) = true ∧ shaped (prD (c, d)) = true then ordD .ge (prD (a, b)) (prD (c, d)) else none) = _
  rw [if_pos ⟨rfl, rfl⟩]
  rcases h with h | ⟨h1, h2⟩
  · have : a ≠ c := by omega
    have h4 : ¬ c ≤ a := by omega
    by_cases hb : b = d <;> simp [prD, ordD, ordDs, PyData.eqv, this, hb, intB, szB, h4]
  · have h3 : b ≠ d := by omega
    have h4 : ¬ d ≤ b := by omega
    simp [prD, ordD, ordDs, PyData.eqv, h1, h3, intB, h4]
/-- arrows one may draw -/
structure ArOk (n : Int) (ar : List (Int × Int)) : Prop where
  ok : ∀ p ∈ ar, ArrowOk n p
  asc : ar.Pairwise fun p q => p.1 < q.1 ∨ (p.1 = q.1 ∧ p.2 < q.2)
  few : ar.length ≤ cap
theorem ar_ascend {n : Int} {ar : List (Int × Int)} (h : ArOk n ar) : Ascend (ar.map prD) := by
  intro i d e h1 h2
  rw [List.getElem?_map] at h1 h2
  cases q1 : ar[i]? with
  | none => rw [q1] at h1; cases h1
  | some p =>
    cases q2 : ar[i + 1]? with
    | none => rw [q2] at h2; cases h2
    | some q =>
      rw [q1] at h1; rw [q2] at h2
      cases h1; cases h2
      have l2 := get_lt' q2
      have l1 := get_lt' q1
      have := List.pairwise_iff_getElem.mp h.asc i (i + 1) l1 l2 (by omega)
      rw [List.getElem?_eq_getElem l1] at q1
      rw [List.getElem?_eq_getElem l2] at q2
      cases q1; cases q2
      exact ord_pair this

/-- a drawing without hidden causes -/
theorem check_drawing_ok {ii ic ia jf gc gt : Nat} {n : Int} {ar : List (Int × Int)} {cs : List (List Int)} (hf : IsFrom fs jf) (hgt : gs[gt]? = some (.i 10)) (hgc : gs[gc]? = some (.i 20)) (h0 : 1 ≤ n) (h1 : n ≤ 10) (hc : cs.length ≤ 20)
    (hi1 : applyF fs ii [.i n, .d (.tuple (ar.map prD)), .i 1, .fn ia] = .ret (.d .none)) (hi2 : applyF fs ii [.i n, .d (.tuple (cs.map csD)), .i 2, .fn ic] = .ret (.d .none)) :
    evD fs gs fu 4 1 (PB_check_drawing ii ic gc ia jf gt) [drW n ar cs] = .ret (drW n ar cs) := by
  rw [d_run 4 1 _ _ rfl]
  have e1 : applyF fs jf [W.d (PyData.int n), W.d (PyData.int 1), W.d (PyData.int 10)] = _ := hf n 1 10
  have e2 : applyF fs ii [W.d (PyData.int n), W.d (PyData.tuple (ar.map prD)), W.d (PyData.int 1), W.fn ia] = _ := hi1
  have e3 : applyF fs ii [W.d (PyData.int n), W.d (PyData.tuple (cs.map csD)), W.d (PyData.int 2), W.fn ic] = _ := hi2
  have h4 : ¬ (20 : Int) < (cs.length : Int) := by omega
  simp [PB_check_drawing, v_v, v_non, v_bl, v_int, v_str, v_gl, v_fn, v_tup, v_lst, v_dnew, v_bin, v_neg, v_cmp, v_chain, v_isN, v_notN, v_bop, v_b1, v_b2, v_not, v_ite, v_ix, v_sl, v_call, v_callk, v_callv, v_bi, v_isi, v_comp, itB, escB, l_nil, l_cons, o_nil, o_cons, c_nil', c_cons', i_of', i_rng1', i_rng2', i_enum', i_zip', i_rev', s_nil', s_cons', t_asg, t_par, t_ret, t_retN, t_ite, t_for, t_ex, t_put, t_app, t_ext, t_brk, t_cnt, cmpK, iteK, notK, bopK, tupK, lstK, iteS, asgK, parK, escE, escL, escI, dem, dem1, getN, binW, addW, mulW, int2, b1W, lenW, tupleW, listW, intW, isiW, ixW, cmpW, wBool, wInt, isNone, asgE, asgT, asgTs, Tg.is, TgL.is, wipeE, fresh, isBox, datas, W.data?, opt_some, opt_none, M.bind_ret, M.bind_stuck, M.nox_ret, itOf, itEnum, itZip, itRev, ownAt, ownL, W.i, W.b, List.map_cons, List.map_nil, List.set, List.getElem?_cons_zero, List.getElem?_cons_succ, List.length_cons, List.length_nil, List.replicate, List.append_nil, List.nil_append, List.cons_append, ite_true, ite_false, Bool.false_eq_true, reduceCtorEq, if_true, if_false, seqK_nx, seqK_rt, seqK_bk, seqK_ct, finK_rt, finK_nx, drW, hgt, hgc, e1, h0, h1, e2, e3, intB, h4]
theorem check_lot_ok {is_ : Nat} {n : Int} {ar : List (Int × Int)} {cs : List (List Int)} {xs : List Int} (h : applyF fs is_ [tI xs, .i (n - 1)] = .ret (.b true)) : evD fs gs fu 2 2 (PB_check_lot is_) [drW n ar cs, tI xs] = .ret (tI xs) := by
  rw [d_run 2 2 _ _ rfl]
  have a0 : atI [PyData.int n, PyData.tuple (ar.map prD), PyData.tuple (cs.map csD)] 0 = some (.int n) := rfl
  have e1 : applyF fs is_ [W.d (PyData.tuple (xs.map PyData.int)), W.d (PyData.int (n - 1))] = _ := h
  simp [PB_check_lot, v_v, v_non, v_bl, v_int, v_str, v_gl, v_fn, v_tup, v_lst, v_dnew, v_bin, v_neg, v_cmp, v_chain, v_isN, v_notN, v_bop, v_b1, v_b2, v_not, v_ite, v_ix, v_sl, v_call, v_callk, v_callv, v_bi, v_isi, v_comp, itB, escB, l_nil, l_cons, o_nil, o_cons, c_nil', c_cons', i_of', i_rng1', i_rng2', i_enum', i_zip', i_rev', s_nil', s_cons', t_asg, t_par, t_ret, t_retN, t_ite, t_for, t_ex, t_put, t_app, t_ext, t_brk, t_cnt, cmpK, iteK, notK, bopK, tupK, lstK, iteS, asgK, parK, escE, escL, escI, dem, dem1, getN, binW, addW, mulW, int2, b1W, lenW, tupleW, listW, intW, isiW, ixW, cmpW, wBool, wInt, isNone, asgE, asgT, asgTs, Tg.is, TgL.is, wipeE, fresh, isBox, datas, W.data?, opt_some, opt_none, M.bind_ret, M.bind_stuck, M.nox_ret, itOf, itEnum, itZip, itRev, ownAt, ownL, W.i, W.b, List.map_cons, List.map_nil, List.set, List.getElem?_cons_zero, List.getElem?_cons_succ, List.length_cons, List.length_nil, List.replicate, List.append_nil, List.nil_append, List.cons_append, ite_true, ite_false, Bool.false_eq_true, reduceCtorEq, if_true, if_false, seqK_nx, seqK_rt, seqK_bk, seqK_ct, finK_rt, finK_nx, drW, tI, a0, e1]
theorem check_within_ok {iw il : Nat} {d : W} {lot xs : List Int} (h1 : applyF fs il [d, tI xs] = .ret (tI xs)) (h2 : applyF fs iw [tI lot, tI xs] = .ret (.b true)) : evD fs gs fu 3 3 (PB_check_within iw il) [d, tI lot, tI xs] = .ret (tI xs) := by
  rw [d_run 3 3 _ _ rfl]
  have e1 : applyF fs il [d, W.d (PyData.tuple (xs.map PyData.int))] = _ := h1
  have e2 : applyF fs iw [W.d (PyData.tuple (lot.map PyData.int)), W.d (PyData.tuple (xs.map PyData.int))] = _ := h2
  simp [PB_check_within, v_v, v_non, v_bl, v_int, v_str, v_gl, v_fn, v_tup, v_lst, v_dnew, v_bin, v_neg, v_cmp, v_chain, v_isN, v_notN, v_bop, v_b1, v_b2, v_not, v_ite, v_ix, v_sl, v_call, v_callk, v_callv, v_bi, v_isi, v_comp, itB, escB, l_nil, l_cons, o_nil, o_cons, c_nil', c_cons', i_of', i_rng1', i_rng2', i_enum', i_zip', i_rev', s_nil', s_cons', t_asg, t_par, t_ret, t_retN, t_ite, t_for, t_ex, t_put, t_app, t_ext, t_brk, t_cnt, cmpK, iteK, notK, bopK, tupK, lstK, iteS, asgK, parK, escE, escL, escI, dem, dem1, getN, binW, addW, mulW, int2, b1W, lenW, tupleW, listW, intW, isiW, ixW, cmpW, wBool, wInt, isNone, asgE, asgT, asgTs, Tg.is, TgL.is, wipeE, fresh, isBox, datas, W.data?, opt_some, opt_none, M.bind_ret, M.bind_stuck, M.nox_ret, itOf, itEnum, itZip, itRev, ownAt, ownL, W.i, W.b, List.map_cons, List.map_nil, List.set, List.getElem?_cons_zero, List.getElem?_cons_succ, List.length_cons, List.length_nil, List.replicate, List.append_nil, List.nil_append, List.cons_append, ite_true, ite_false, Bool.false_eq_true, reduceCtorEq, if_true, if_false, seqK_nx, seqK_rt, seqK_bk, seqK_ct, finK_rt, finK_nx, tI, e1, e2]
/-! ### what leads where -/
/-- turn by turn, from the back -/
def leadF (ar : List (Int × Int)) (lot goal : List Int) : List Int → List Int → List Int
  | [], found => found
  | x :: rest, found => leadF ar lot goal rest (if x ∈ goal ∨ ∃ y ∈ outs ar lot x, y ∈ found then found ++ [x] else found)
def foundD (found : List Int) : List (Key × W) := found.map fun x => (Sum.inl x, W.b true)
theorem foundD_keys (found : List Int) : keysI (foundD found) = some found := by
  induction found with
  | nil => rfl
  | cons x xs ih => unfold foundD at ih ⊢; rw [List.map_cons, keysI, ih]
theorem foundD_find (found : List Int) (x : Int) : (findV (foundD found) (Sum.inl x)).isSome = decide (x ∈ found) := by
  unfold findV foundD
  induction found with
  | nil => rfl
  | cons y ys ih =>
    rw [List.map_cons, List.find?_cons]
    by_cases h : y = x
    · subst h; simp
    · have : ¬ (Sum.inl y : Key) = Sum.inl x := fun z => h (Sum.inl.inj z)
      rw [decide_eq_false this]
      dsimp only
      rw [ih]
      have : x ≠ y := fun z => h z.symm
      simp [this]
theorem foundD_put (found : List Int) (x : Int) (h : x ∉ found) : putV (Sum.inl x) (W.b true) (foundD found) = foundD (found ++ [x]) := by
  unfold putV
  rw [if_neg]
  · unfold foundD; rw [List.map_append]; rfl
  · unfold foundD
    intro z
    rw [List.any_map, List.any_eq_true] at z
    obtain ⟨y, hy, e⟩ := z
    have : (Sum.inl y : Key) = Sum.inl x := of_decide_eq_true e
    exact h (Sum.inl.inj this ▸ hy)

theorem foundD_len (found : List Int) : (foundD found).length = found.length := by unfold foundD; rw [List.length_map]
theorem inW_found (x : Int) (found : List Int) : inW (W.d (.int x)) (.dK (foundD found)) = some (decide (x ∈ found)) := by
  show some (findV (foundD found) (Sum.inl x)).isSome = _
  rw [foundD_find]
theorem leadF_len (ar : List (Int × Int)) (lot goal : List Int) : ∀ (rest found : List Int), (leadF ar lot goal rest found).length ≤ found.length + rest.length
  | [], found => by simp [leadF]
  | x :: rest, found => by
    unfold leadF
    refine Nat.le_trans (leadF_len ar lot goal rest _) ?_
    split
    · rw [List.length_append]; simp; omega
    · simp
theorem outs_len (ar : List (Int × Int)) (lot : List Int) (x : Int) : (outs ar lot x).length ≤ ar.length := List.length_filterMap_le _ _
theorem leadF_cons (ar : List (Int × Int)) (lot goal : List Int) (x : Int) (rest found : List Int) : leadF ar lot goal (x :: rest) found = leadF ar lot goal rest (if x ∈ goal ∨ ∃ y ∈ outs ar lot x, y ∈ found then found ++ [x] else found) := rfl
theorem nodup_rev {l : List Int} (h : l.Nodup) : l.reverse.Nodup := by
  unfold List.Nodup at h ⊢
  rw [List.pairwise_reverse]
  exact h.imp fun z y => z y.symm
theorem not_take {l : List Int} {x : Int} : ∀ {k : Nat}, l.Nodup → l[k]? = some x → x ∉ l.take k := by
  induction l with
  | nil => intro k _ h; simp at h
  | cons y l ih =>
    intro k hn h
    cases k with
    | zero => simp
    | succ k =>
      obtain ⟨h1, h2⟩ := List.nodup_cons.mp hn
      have h : l[k]? = some x := by simpa using h
      rw [List.take_succ_cons]
      intro z
      rcases List.mem_cons.mp z with z | z
      · subst z; exact h1 (List.mem_of_getElem? h)
      · exact ih h2 h z
theorem leading_so_ok {ic : Nat} {n : Int} {ar : List (Int × Int)} {cs : List (List Int)} {lot goal : List Int} (hnd : lot.Nodup) (hl : lot.length < 64) (ha : ar.length ≤ cap)
    (hch : ∀ x, applyF fs ic [drW n ar cs, tI lot, .i x] = .ret (tI (outs ar lot x))) : evD fs gs fu 6 3 (PB_leading_so ic) [drW n ar cs, tI lot, tI goal] = .ret (tI (sortI (leadF ar lot goal lot.reverse []))) := by
  rw [d_run 6 3 _ _ rfl]
  have hcap : cap = 100000 := rfl
  obtain ⟨r', h1, c4, found, hr, hf, _⟩ := forR_inv (fs := fs) (gs := gs) (fu := fu) (tg := .n 4) (ws := (lot.map PyData.int).reverse.map .d)
    (body := (.cons (.ite (.bop false (.cons (.cmp .isin (.v 4) (.v 2)) (.cons (.cmp .gt (.b1 .len (.comp (.n 5) (.of (.call ic (.cons (.v 0) (.cons (.v 1) (.cons (.v 4) .nil))))) (.cons (.cmp .isin (.v 5) (.v 3)) .nil) (.int 1))) (.int 0)) .nil))) (.cons (.put 3 (.v 4) (.bl true)) .nil) .nil) .nil))
    (fun k r => ∃ c4 found, r = [.sh (drW n ar cs), .sh (tI lot), .sh (tI goal), .ow (.dK (foundD found)), c4, .no] ∧ leadF ar lot goal (lot.reverse.drop k) found = leadF ar lot goal lot.reverse [] ∧ (∀ y ∈ found, y ∈ lot.reverse.take k) ∧ found.length ≤ k)
    (r := [.sh (drW n ar cs), .sh (tI lot), .sh (tI goal), .ow (.dK (foundD [])), .no, .no]) ⟨_, [], rfl, by rw [List.drop_zero], fun _ h => by simp at h, Nat.le_refl _⟩ (fun k w r hw ⟨c4, found, hr, hfd, hsub, hlen⟩ => by
      subst hr
      rw [← List.map_reverse, List.map_map, List.getElem?_map] at hw
      cases hx : lot.reverse[k]? with
      | none => rw [hx] at hw; cases hw
      | some x =>
        rw [hx] at hw
        cases hw
        have hk := get_lt' hx
        rw [List.length_reverse] at hk
        have hdrop : lot.reverse.drop k = x :: lot.reverse.drop (k + 1) := by
          rw [List.drop_eq_getElem_cons (get_lt' hx)]
          congr 1
          exact Option.some.inj ((List.getElem?_eq_getElem (get_lt' hx)).symm.trans hx)
        have hnew : x ∉ found := fun z => not_take (nodup_rev hnd) hx (hsub x z)
        have htake : lot.reverse.take (k + 1) = lot.reverse.take k ++ [x] := by rw [List.take_add_one, hx]; rfl
        have hset : asgT (.n 4) ((W.d ∘ PyData.int) x) [.sh (drW n ar cs), .sh (tI lot), .sh (tI goal), .ow (.dK (foundD found)), c4, .no] = some [.sh (drW n ar cs), .sh (tI lot), .sh (tI goal), .ow (.dK (foundD found)), .sh (.i x), .no] := rfl
        have e1 : applyF fs ic [W.d (.tuple [.int n, .tuple (ar.map prD), .tuple (cs.map csD)]), W.d (.tuple (lot.map PyData.int)), W.d (.int x)] = _ := hch x
        have hcomp : compR fs gs [.sh (drW n ar cs), .sh (tI lot), .sh (tI goal), .ow (.dK (foundD found)), .sh (.i x), .no] (.n 5) (.cons (.cmp .isin (.v 5) (.v 3)) .nil) (.int 1) ((outs ar lot x).map (W.d ∘ PyData.int)) = .ret (.d (.list ((outs ar lot x).filterMap fun y => if y ∈ found then some (.int 1) else none))) :=
          compR_of (W.d ∘ PyData.int) _ (Nat.le_trans (outs_len ar lot x) ha) fun y hy => by
            by_cases h : y ∈ found <;> simp [stepC, v_v, v_non, v_bl, v_int, v_str, v_gl, v_fn, v_tup, v_lst, v_dnew, v_bin, v_neg, v_cmp, v_chain, v_isN, v_notN, v_bop, v_b1, v_b2, v_not, v_ite, v_ix, v_sl, v_call, v_callk, v_callv, v_bi, v_isi, v_comp, itB, escB, l_nil, l_cons, o_nil, o_cons, c_nil', c_cons', i_of', i_rng1', i_rng2', i_enum', i_zip', i_rev', s_nil', s_cons', t_asg, t_par, t_ret, t_retN, t_ite, t_for, t_ex, t_put, t_app, t_ext, t_brk, t_cnt, cmpK, iteK, notK, bopK, tupK, lstK, iteS, asgK, parK, escE, escL, escI, dem, dem1, getN, binW, addW, mulW, int2, b1W, lenW, tupleW, listW, intW, isiW, ixW, cmpW, wBool, wInt, isNone, asgE, asgT, asgTs, Tg.is, TgL.is, wipeE, fresh, isBox, datas, W.data?, opt_some, opt_none, M.bind_ret, M.bind_stuck, M.nox_ret, itOf, itEnum, itZip, itRev, ownAt, ownL, W.i, W.b, List.map_cons, List.map_nil, List.set, List.getElem?_cons_zero, List.getElem?_cons_succ, List.length_cons, List.length_nil, List.replicate, List.append_nil, List.nil_append, List.cons_append, ite_true, ite_false, Bool.false_eq_true, reduceCtorEq, if_true, if_false, seqK_nx, seqK_rt, seqK_bk, seqK_ct, finK_rt, finK_nx, inW_found, h]
        rw [hdrop, leadF_cons] at hfd
        have hlong : ((outs ar lot x).filterMap fun y => if y ∈ found then some (PyData.int 1) else none).length ≠ 0 ↔ ∃ y ∈ outs ar lot x, y ∈ found := by
          generalize outs ar lot x = os
          induction os with
          | nil => simp
          | cons o os ih =>
            by_cases h : o ∈ found
            · simp [List.filterMap_cons, h]
            · simp only [List.filterMap_cons, h, if_false]
              rw [ih]
              simp [h]
        by_cases hc : x ∈ goal ∨ ∃ y ∈ outs ar lot x, y ∈ found
        · rw [if_pos hc] at hfd
          refine ⟨_, [.sh (drW n ar cs), .sh (tI lot), .sh (tI goal), .ow (.dK (foundD (found ++ [x]))), .sh (.i x), .no], hset, ?_, _, found ++ [x], rfl, hfd, fun y hy => ?_, by rw [List.length_append]; simp; omega⟩
          · have hput : putW (.dK (foundD found)) (W.d (.int x)) (W.d (.bool true)) = some (.dK (foundD (found ++ [x]))) := by
              show (if (foundD found).length < cap then some (W.dK (putV (Sum.inl x) (W.b true) (foundD found))) else none) = _
              rw [if_pos (by rw [foundD_len]; omega), foundD_put found x hnew]
            by_cases hg : x ∈ goal
            · simp [v_v, v_non, v_bl, v_int, v_str, v_gl, v_fn, v_tup, v_lst, v_dnew, v_bin, v_neg, v_cmp, v_chain, v_isN, v_notN, v_bop, v_b1, v_b2, v_not, v_ite, v_ix, v_sl, v_call, v_callk, v_callv, v_bi, v_isi, v_comp, itB, escB, l_nil, l_cons, o_nil, o_cons, c_nil', c_cons', i_of', i_rng1', i_rng2', i_enum', i_zip', i_rev', s_nil', s_cons', t_asg, t_par, t_ret, t_retN, t_ite, t_for, t_ex, t_put, t_app, t_ext, t_brk, t_cnt, cmpK, iteK, notK, bopK, tupK, lstK, iteS, asgK, parK, escE, escL, escI, dem, dem1, getN, binW, addW, mulW, int2, b1W, lenW, tupleW, listW, intW, isiW, ixW, cmpW, wBool, wInt, isNone, asgE, asgT, asgTs, Tg.is, TgL.is, wipeE, fresh, isBox, datas, W.data?, opt_some, opt_none, M.bind_ret, M.bind_stuck, M.nox_ret, itOf, itEnum, itZip, itRev, ownAt, ownL, W.i, W.b, List.map_cons, List.map_nil, List.set, List.getElem?_cons_zero, List.getElem?_cons_succ, List.length_cons, List.length_nil, List.replicate, List.append_nil, List.nil_append, List.cons_append, ite_true, ite_false, Bool.false_eq_true, reduceCtorEq, if_true, if_false, seqK_nx, seqK_rt, seqK_bk, seqK_ct, finK_rt, finK_nx, hg, hput]
            · have hne := hlong.mpr (hc.resolve_left hg)
              simp [v_v, v_non, v_bl, v_int, v_str, v_gl, v_fn, v_tup, v_lst, v_dnew, v_bin, v_neg, v_cmp, v_chain, v_isN, v_notN, v_bop, v_b1, v_b2, v_not, v_ite, v_ix, v_sl, v_call, v_callk, v_callv, v_bi, v_isi, v_comp, itB, escB, l_nil, l_cons, o_nil, o_cons, c_nil', c_cons', i_of', i_rng1', i_rng2', i_enum', i_zip', i_rev', s_nil', s_cons', t_asg, t_par, t_ret, t_retN, t_ite, t_for, t_ex, t_put, t_app, t_ext, t_brk, t_cnt, cmpK, iteK, notK, bopK, tupK, lstK, iteS, asgK, parK, escE, escL, escI, dem, dem1, getN, binW, addW, mulW, int2, b1W, lenW, tupleW, listW, intW, isiW, ixW, cmpW, wBool, wInt, isNone, asgE, asgT, asgTs, Tg.is, TgL.is, wipeE, fresh, isBox, datas, W.data?, opt_some, opt_none, M.bind_ret, M.bind_stuck, M.nox_ret, itOf, itEnum, itZip, itRev, ownAt, ownL, W.i, W.b, List.map_cons, List.map_nil, List.set, List.getElem?_cons_zero, List.getElem?_cons_succ, List.length_cons, List.length_nil, List.replicate, List.append_nil, List.nil_append, List.cons_append, ite_true, ite_false, Bool.false_eq_true, reduceCtorEq, if_true, if_false, seqK_nx, seqK_rt, seqK_bk, seqK_ct, finK_rt, finK_nx, hg, e1, tI]
              simp [drW, tI] at hcomp
              rw [hcomp]
              have : (0 : Int) < ((((outs ar lot x).filterMap fun y => if y ∈ found then some (PyData.int 1) else none).length : Nat) : Int) := by omega
              simp [v_v, v_non, v_bl, v_int, v_str, v_gl, v_fn, v_tup, v_lst, v_dnew, v_bin, v_neg, v_cmp, v_chain, v_isN, v_notN, v_bop, v_b1, v_b2, v_not, v_ite, v_ix, v_sl, v_call, v_callk, v_callv, v_bi, v_isi, v_comp, itB, escB, l_nil, l_cons, o_nil, o_cons, c_nil', c_cons', i_of', i_rng1', i_rng2', i_enum', i_zip', i_rev', s_nil', s_cons', t_asg, t_par, t_ret, t_retN, t_ite, t_for, t_ex, t_put, t_app, t_ext, t_brk, t_cnt, cmpK, iteK, notK, bopK, tupK, lstK, iteS, asgK, parK, escE, escL, escI, dem, dem1, getN, binW, addW, mulW, int2, b1W, lenW, tupleW, listW, intW, isiW, ixW, cmpW, wBool, wInt, isNone, asgE, asgT, asgTs, Tg.is, TgL.is, wipeE, fresh, isBox, datas, W.data?, opt_some, opt_none, M.bind_ret, M.bind_stuck, M.nox_ret, itOf, itEnum, itZip, itRev, ownAt, ownL, W.i, W.b, List.map_cons, List.map_nil, List.set, List.getElem?_cons_zero, List.getElem?_cons_succ, List.length_cons, List.length_nil, List.replicate, List.append_nil, List.nil_append, List.cons_append, ite_true, ite_false, Bool.false_eq_true, reduceCtorEq, if_true, if_false, seqK_nx, seqK_rt, seqK_bk, seqK_ct, finK_rt, finK_nx, intB, this, hput, hc.resolve_left hg]
          · rw [htake]
            rcases List.mem_append.mp hy with h | h
            · exact List.mem_append_left _ (hsub y h)
            · exact List.mem_append_right _ h
        · rw [if_neg hc] at hfd
          refine ⟨_, [.sh (drW n ar cs), .sh (tI lot), .sh (tI goal), .ow (.dK (foundD found)), .sh (.i x), .no], hset, ?_, _, found, rfl, hfd, fun y hy => ?_, by omega⟩
          · have hg : x ∉ goal := fun z => hc (.inl z)
            have hz : ((outs ar lot x).filterMap fun y => if y ∈ found then some (PyData.int 1) else none).length = 0 := by
              by_cases z : ((outs ar lot x).filterMap fun y => if y ∈ found then some (PyData.int 1) else none).length = 0
              · exact z
              · exact absurd (.inr (hlong.mp z)) hc
            simp [v_v, v_non, v_bl, v_int, v_str, v_gl, v_fn, v_tup, v_lst, v_dnew, v_bin, v_neg, v_cmp, v_chain, v_isN, v_notN, v_bop, v_b1, v_b2, v_not, v_ite, v_ix, v_sl, v_call, v_callk, v_callv, v_bi, v_isi, v_comp, itB, escB, l_nil, l_cons, o_nil, o_cons, c_nil', c_cons', i_of', i_rng1', i_rng2', i_enum', i_zip', i_rev', s_nil', s_cons', t_asg, t_par, t_ret, t_retN, t_ite, t_for, t_ex, t_put, t_app, t_ext, t_brk, t_cnt, cmpK, iteK, notK, bopK, tupK, lstK, iteS, asgK, parK, escE, escL, escI, dem, dem1, getN, binW, addW, mulW, int2, b1W, lenW, tupleW, listW, intW, isiW, ixW, cmpW, wBool, wInt, isNone, asgE, asgT, asgTs, Tg.is, TgL.is, wipeE, fresh, isBox, datas, W.data?, opt_some, opt_none, M.bind_ret, M.bind_stuck, M.nox_ret, itOf, itEnum, itZip, itRev, ownAt, ownL, W.i, W.b, List.map_cons, List.map_nil, List.set, List.getElem?_cons_zero, List.getElem?_cons_succ, List.length_cons, List.length_nil, List.replicate, List.append_nil, List.nil_append, List.cons_append, ite_true, ite_false, Bool.false_eq_true, reduceCtorEq, if_true, if_false, seqK_nx, seqK_rt, seqK_bk, seqK_ct, finK_rt, finK_nx, hg, e1, tI]
            simp [drW, tI] at hcomp
            rw [hcomp]
            simp [v_v, v_non, v_bl, v_int, v_str, v_gl, v_fn, v_tup, v_lst, v_dnew, v_bin, v_neg, v_cmp, v_chain, v_isN, v_notN, v_bop, v_b1, v_b2, v_not, v_ite, v_ix, v_sl, v_call, v_callk, v_callv, v_bi, v_isi, v_comp, itB, escB, l_nil, l_cons, o_nil, o_cons, c_nil', c_cons', i_of', i_rng1', i_rng2', i_enum', i_zip', i_rev', s_nil', s_cons', t_asg, t_par, t_ret, t_retN, t_ite, t_for, t_ex, t_put, t_app, t_ext, t_brk, t_cnt, cmpK, iteK, notK, bopK, tupK, lstK, iteS, asgK, parK, escE, escL, escI, dem, dem1, getN, binW, addW, mulW, int2, b1W, lenW, tupleW, listW, intW, isiW, ixW, cmpW, wBool, wInt, isNone, asgE, asgT, asgTs, Tg.is, TgL.is, wipeE, fresh, isBox, datas, W.data?, opt_some, opt_none, M.bind_ret, M.bind_stuck, M.nox_ret, itOf, itEnum, itZip, itRev, ownAt, ownL, W.i, W.b, List.map_cons, List.map_nil, List.set, List.getElem?_cons_zero, List.getElem?_cons_succ, List.length_cons, List.length_nil, List.replicate, List.append_nil, List.nil_append, List.cons_append, ite_true, ite_false, Bool.false_eq_true, reduceCtorEq, if_true, if_false, seqK_nx, seqK_rt, seqK_bk, seqK_ct, finK_rt, finK_nx, intB, hz]
          · rw [htake]; exact List.mem_append_left _ (hsub y hy))
  subst hr
  have hlenw : ((lot.map PyData.int).reverse.map W.d).length = lot.length := by simp
  rw [hlenw] at hf
  rw [show lot.reverse.drop lot.length = [] by rw [← List.length_reverse, List.drop_length], show leadF ar lot goal [] found = found from rfl] at hf
  have hfl : found.length < 64 := by
    rw [hf]
    have := leadF_len ar lot goal lot.reverse []
    rw [List.length_reverse] at this
    simp at this
    omega
  have hs : sortedW (.dK (foundD found)) = some (.d (.list ((sortI found).map .int))) := by
    unfold sortedW
    dsimp only
    rw [foundD_keys]
    dsimp only
    rw [if_pos hfl]
  simp [PB_leading_so, v_v, v_non, v_bl, v_int, v_str, v_gl, v_fn, v_tup, v_lst, v_dnew, v_bin, v_neg, v_cmp, v_chain, v_isN, v_notN, v_bop, v_b1, v_b2, v_not, v_ite, v_ix, v_sl, v_call, v_callk, v_callv, v_bi, v_isi, v_comp, itB, escB, l_nil, l_cons, o_nil, o_cons, c_nil', c_cons', i_of', i_rng1', i_rng2', i_enum', i_zip', i_rev', s_nil', s_cons', t_asg, t_par, t_ret, t_retN, t_ite, t_for, t_ex, t_put, t_app, t_ext, t_brk, t_cnt, cmpK, iteK, notK, bopK, tupK, lstK, iteS, asgK, parK, escE, escL, escI, dem, dem1, getN, binW, addW, mulW, int2, b1W, lenW, tupleW, listW, intW, isiW, ixW, cmpW, wBool, wInt, isNone, asgE, asgT, asgTs, Tg.is, TgL.is, wipeE, fresh, isBox, datas, W.data?, opt_some, opt_none, M.bind_ret, M.bind_stuck, M.nox_ret, itOf, itEnum, itZip, itRev, ownAt, ownL, W.i, W.b, List.map_cons, List.map_nil, List.set, List.getElem?_cons_zero, List.getElem?_cons_succ, List.length_cons, List.length_nil, List.replicate, List.append_nil, List.nil_append, List.cons_append, ite_true, ite_false, Bool.false_eq_true, reduceCtorEq, if_true, if_false, seqK_nx, seqK_rt, seqK_bk, seqK_ct, finK_rt, finK_nx]
  simp [foundD] at h1
  rw [h1]
  rw [hf] at hs
  simp only [foundD, W.b] at hs
  simp [v_v, v_non, v_bl, v_int, v_str, v_gl, v_fn, v_tup, v_lst, v_dnew, v_bin, v_neg, v_cmp, v_chain, v_isN, v_notN, v_bop, v_b1, v_b2, v_not, v_ite, v_ix, v_sl, v_call, v_callk, v_callv, v_bi, v_isi, v_comp, itB, escB, l_nil, l_cons, o_nil, o_cons, c_nil', c_cons', i_of', i_rng1', i_rng2', i_enum', i_zip', i_rev', s_nil', s_cons', t_asg, t_par, t_ret, t_retN, t_ite, t_for, t_ex, t_put, t_app, t_ext, t_brk, t_cnt, cmpK, iteK, notK, bopK, tupK, lstK, iteS, asgK, parK, escE, escL, escI, dem, dem1, getN, binW, addW, mulW, int2, b1W, lenW, tupleW, listW, intW, isiW, ixW, cmpW, wBool, wInt, isNone, asgE, asgT, asgTs, Tg.is, TgL.is, wipeE, fresh, isBox, datas, W.data?, opt_some, opt_none, M.bind_ret, M.bind_stuck, M.nox_ret, itOf, itEnum, itZip, itRev, ownAt, ownL, W.i, W.b, List.map_cons, List.map_nil, List.set, List.getElem?_cons_zero, List.getElem?_cons_succ, List.length_cons, List.length_nil, List.replicate, List.append_nil, List.nil_append, List.cons_append, ite_true, ite_false, Bool.false_eq_true, reduceCtorEq, if_true, if_false, seqK_nx, seqK_rt, seqK_bk, seqK_ct, finK_rt, finK_nx, foundD, hf, hs]

def leadL (ar : List (Int × Int)) (lot goal : List Int) : List Int := sortI (leadF ar lot goal lot.reverse [])
theorem leading_ok {il iw io id : Nat} {d : W} {lot goal : List Int} {res : W} (h1 : applyF fs id [d] = .ret d) (h2 : applyF fs io [d, tI lot] = .ret (tI lot)) (h3 : applyF fs iw [d, tI lot, tI goal] = .ret (tI goal)) (h4 : applyF fs il [d, tI lot, tI goal] = .ret res) :
    evD fs gs fu 3 3 (PB_leading il iw io id) [d, tI lot, tI goal] = .ret res := by
  rw [d_run 3 3 _ _ rfl]
  have e2 : applyF fs io [d, W.d (PyData.tuple (lot.map PyData.int))] = _ := h2
  have e3 : applyF fs iw [d, W.d (PyData.tuple (lot.map PyData.int)), W.d (PyData.tuple (goal.map PyData.int))] = _ := h3
  have e4 : applyF fs il [d, W.d (PyData.tuple (lot.map PyData.int)), W.d (PyData.tuple (goal.map PyData.int))] = _ := h4
  simp [PB_leading, v_v, v_non, v_bl, v_int, v_str, v_gl, v_fn, v_tup, v_lst, v_dnew, v_bin, v_neg, v_cmp, v_chain, v_isN, v_notN, v_bop, v_b1, v_b2, v_not, v_ite, v_ix, v_sl, v_call, v_callk, v_callv, v_bi, v_isi, v_comp, itB, escB, l_nil, l_cons, o_nil, o_cons, c_nil', c_cons', i_of', i_rng1', i_rng2', i_enum', i_zip', i_rev', s_nil', s_cons', t_asg, t_par, t_ret, t_retN, t_ite, t_for, t_ex, t_put, t_app, t_ext, t_brk, t_cnt, cmpK, iteK, notK, bopK, tupK, lstK, iteS, asgK, parK, escE, escL, escI, dem, dem1, getN, binW, addW, mulW, int2, b1W, lenW, tupleW, listW, intW, isiW, ixW, cmpW, wBool, wInt, isNone, asgE, asgT, asgTs, Tg.is, TgL.is, wipeE, fresh, isBox, datas, W.data?, opt_some, opt_none, M.bind_ret, M.bind_stuck, M.nox_ret, itOf, itEnum, itZip, itRev, ownAt, ownL, W.i, W.b, List.map_cons, List.map_nil, List.set, List.getElem?_cons_zero, List.getElem?_cons_succ, List.length_cons, List.length_nil, List.replicate, List.append_nil, List.nil_append, List.cons_append, ite_true, ite_false, Bool.false_eq_true, reduceCtorEq, if_true, if_false, seqK_nx, seqK_rt, seqK_bk, seqK_ct, finK_rt, finK_nx, tI, h1, e2, e3, e4]
theorem goal_of_ok {il iw ie iv io id : Nat} {d : W} {shut every free goal : List Int} {res : W} (h1 : applyF fs id [d] = .ret d) (h2 : applyF fs io [d, tI shut] = .ret (tI shut)) (he : applyF fs iv [d] = .ret (tI every)) (hf : applyF fs ie [tI every, tI shut] = .ret (tI free))
    (h3 : applyF fs iw [d, tI free, tI goal] = .ret (tI goal)) (h4 : applyF fs il [d, tI free, tI goal] = .ret res) : evD fs gs fu 4 3 (PB_goal_of il iw ie iv io id) [d, tI shut, tI goal] = .ret res := by
  rw [d_run 4 3 _ _ rfl]
  have e2 : applyF fs io [d, W.d (PyData.tuple (shut.map PyData.int))] = _ := h2
  have e5 : applyF fs ie [W.d (PyData.tuple (every.map PyData.int)), W.d (PyData.tuple (shut.map PyData.int))] = _ := hf
  have e3 : applyF fs iw [d, W.d (PyData.tuple (free.map PyData.int)), W.d (PyData.tuple (goal.map PyData.int))] = _ := h3
  have e4 : applyF fs il [d, W.d (PyData.tuple (free.map PyData.int)), W.d (PyData.tuple (goal.map PyData.int))] = _ := h4
  simp [PB_goal_of, v_v, v_non, v_bl, v_int, v_str, v_gl, v_fn, v_tup, v_lst, v_dnew, v_bin, v_neg, v_cmp, v_chain, v_isN, v_notN, v_bop, v_b1, v_b2, v_not, v_ite, v_ix, v_sl, v_call, v_callk, v_callv, v_bi, v_isi, v_comp, itB, escB, l_nil, l_cons, o_nil, o_cons, c_nil', c_cons', i_of', i_rng1', i_rng2', i_enum', i_zip', i_rev', s_nil', s_cons', t_asg, t_par, t_ret, t_retN, t_ite, t_for, t_ex, t_put, t_app, t_ext, t_brk, t_cnt, cmpK, iteK, notK, bopK, tupK, lstK, iteS, asgK, parK, escE, escL, escI, dem, dem1, getN, binW, addW, mulW, int2, b1W, lenW, tupleW, listW, intW, isiW, ixW, cmpW, wBool, wInt, isNone, asgE, asgT, asgTs, Tg.is, TgL.is, wipeE, fresh, isBox, datas, W.data?, opt_some, opt_none, M.bind_ret, M.bind_stuck, M.nox_ret, itOf, itEnum, itZip, itRev, ownAt, ownL, W.i, W.b, List.map_cons, List.map_nil, List.set, List.getElem?_cons_zero, List.getElem?_cons_succ, List.length_cons, List.length_nil, List.replicate, List.append_nil, List.nil_append, List.cons_append, ite_true, ite_false, Bool.false_eq_true, reduceCtorEq, if_true, if_false, seqK_nx, seqK_rt, seqK_bk, seqK_ct, finK_rt, finK_nx, tI, h1, e2, he, e5, e3, e4]
end
end DS

set_option Elab.async false
set_option linter.all false
set_option autoImplicit false
set_option maxRecDepth 100000
set_option maxHeartbeats 4000000
/-! DP2: loops that return, draws; what comes to a goal. -/
namespace DS
open PySem PySem.Spec PySem.SeqAt PyProof.Rows L2
section
variable {fs : Fns} {gs : List W} {fu : Nat}
/-- a loop that returns v at the first item with f -/
theorem forR_find {α : Type} {tg : Tg} {body : SL} (g : α → W) (f : α → Bool) (v : W) (I : Env → Prop) : ∀ {xs : List α} {r : Env}, I r →
    (∀ x ∈ xs, ∀ r, I r → ∃ r2 r3, asgT tg (g x) r = some r2 ∧ evSL fs gs fu body r2 = .ret (if f x = true then (.rt v, r3) else (.nx, r3)) ∧ I r3) →
    ∃ r', forR fs gs fu tg body r (xs.map g) = .ret (if xs.any f = true then (.rt v, r') else (.nx, r')) ∧ I r'
  | [], r, h0, _ => ⟨r, rfl, h0⟩
  | x :: xs, r, h0, hs => by
    obtain ⟨r2, r3, h1, h2, h3⟩ := hs x List.mem_cons_self r h0
    unfold forR
    rw [List.map_cons, forM_cons]
    simp only [h1, opt_some, M.bind_ret, h2]
    cases hf : f x with
    | true => exact ⟨r3, by simp [List.any_cons, hf], h3⟩
    | false =>
      obtain ⟨r', g1, g2⟩ := forR_find g f v I h3 fun y hy => hs y (List.mem_cons_of_mem _ hy)
      refine ⟨r', ?_, g2⟩
      unfold forR at g1
      simp only [List.any_cons, hf, Bool.false_or, Bool.false_eq_true, if_false]
      exact g1
/-! ### draws -/
theorem M.nox_wp {α : Type} {m : M α} {Q : α → Nat → Prop} {E : Exc → Nat → Prop} : ∀ {N : Nat}, m.wp N Q (fun _ _ => False) → m.nox.wp N Q E := by
  induction m with
  | ret a => exact fun h => h
  | exc x => exact fun h => h.elim
  | stuck => exact fun h => h.elim
  | draw n k ih => exact fun h => ⟨h.1, h.2.1, fun i a b => ih i (h.2.2 i a b)⟩
abbrev NoX : Exc → Nat → Prop := fun _ _ => False
/-- at most b draws, and P of the answer -/
def Ok {α : Type} (b : Nat) (m : M α) (P : α → Prop) : Prop := ∀ N, N + b ≤ 2 ^ 39 → m.wp N (fun a n => n ≤ N + b ∧ P a) NoX
theorem Ok.ret {α : Type} {b : Nat} {a : α} {P : α → Prop} (h : P a) : Ok b (.ret a) P := fun N _ => ⟨Nat.le_add_right _ _, h⟩
theorem Ok.of {α : Type} {b : Nat} {m : M α} {a : α} {P : α → Prop} (e : m = .ret a) (h : P a) : Ok b m P := e ▸ Ok.ret h
theorem Ok.bind {α β : Type} {b1 b2 : Nat} {m : M α} {f : α → M β} {P : α → Prop} {Q : β → Prop} (h : Ok b1 m P) (k : ∀ a, P a → Ok b2 (f a) Q) : Ok (b1 + b2) (m.bind f) Q := fun N hN => by
  refine M.wp_bind.mpr (M.wp_mono (fun a n ⟨hn, hp⟩ => ?_) (fun _ _ x => x) (h N (by omega)))
  exact M.wp_mono (fun c n2 ⟨h2, hq⟩ => ⟨by omega, hq⟩) (fun _ _ x => x) (k a hp n (by omega))
theorem Ok.imp {α : Type} {b b' : Nat} {m : M α} {P Q : α → Prop} (h : Ok b m P) (hb : b ≤ b') (k : ∀ a, P a → Q a) : Ok b' m Q := fun N hN =>
  M.wp_mono (fun a n ⟨hn, hp⟩ => ⟨by omega, k a hp⟩) (fun _ _ x => x) (h N (by omega))
theorem Ok.nox {α : Type} {b : Nat} {m : M α} {P : α → Prop} (h : Ok b m P) : Ok b m.nox P := fun N hN => M.nox_wp (h N hN)
theorem Ok.draw {l : Int} (h : 0 < l) (h2 : l < 2 ^ 60) : Ok 1 (drawF [.tok, .i l]) (fun w => ∃ k : Int, w = .i k ∧ 0 ≤ k ∧ k < l) := fun N hN => by
  show (if l.natAbs.log2 < 9000 then M.draw l fun i => M.ret (W.i i) else .stuck).wp _ _ _
  rw [if_pos (by have := log_lt (m := 60) (by omega : 0 ≤ l) h2 (by omega); omega)]
  exact ⟨h, by omega, fun i a b => ⟨Nat.le_refl _, i, rfl, a, b⟩⟩
/-- a comprehension that draws -/
inductive All2 {α β : Type} (R : α → β → Prop) : List α → List β → Prop
  | nil : All2 R [] []
  | cons {a : α} {b : β} {as : List α} {bs : List β} : R a b → All2 R as bs → All2 R (a :: as) (b :: bs)
theorem compM_ok {α : Type} {step : W → M (Option PyData)} (g : α → W) (R : α → Option PyData → Prop) (b : Nat) : ∀ {xs : List α} {acc : List PyData}, (∀ x ∈ xs, Ok b (step (g x)) (R x)) → Ok (b * xs.length) (compM step (xs.map g) acc) (fun ds => ∃ os, All2 R xs os ∧ ds = acc ++ os.filterMap id)
  | [], acc, _ => Ok.ret ⟨[], .nil, by simp⟩
  | x :: xs, acc, h => by
    rw [List.map_cons, compM_cons]
    refine (Ok.bind (b1 := b) (b2 := b * xs.length) (h x List.mem_cons_self) (fun o ho => ?_)).imp (by rw [List.length_cons, Nat.mul_succ]; omega) (fun _ z => z)
    have ih := fun acc => compM_ok g R b (xs := xs) (acc := acc) fun y hy => h y (List.mem_cons_of_mem _ hy)
    cases o with
    | none => exact (ih acc).imp (Nat.le_refl _) fun ds ⟨os, h1, h2⟩ => ⟨none :: os, .cons ho h1, h2⟩
    | some y => exact (ih (acc ++ [y])).imp (Nat.le_refl _) fun ds ⟨os, h1, h2⟩ => ⟨some y :: os, .cons ho h1, by rw [h2, List.append_assoc]; rfl⟩
theorem compR_ok {α : Type} {r : Env} {tg : Tg} {cs : EL} {elt : E} (g : α → W) (R : α → Option PyData → Prop) (b : Nat) {xs : List α} (hl : xs.length ≤ cap) (h : ∀ x ∈ xs, Ok b (stepC fs gs r tg cs elt (g x)) (R x)) :
    Ok (b * xs.length) (compR fs gs r tg cs elt (xs.map g)) (fun w => ∃ os, All2 R xs os ∧ w = .d (.list (os.filterMap id))) := by
  unfold compR
  rw [if_pos (by rw [List.length_map]; exact hl)]
  refine (Ok.bind (b1 := b * xs.length) (b2 := 0) (Ok.nox (compM_ok g R b (acc := []) h)) fun ds ⟨os, h1, h2⟩ => Ok.ret ⟨os, h1, by rw [h2]; rfl⟩).imp (Nat.le_refl _) fun _ z => z
/-- a loop that draws -/
theorem forR_ok {tg : Tg} {body : SL} {ws : List W} (b : Nat) (I : Nat → Env → Prop) {r : Env} (h0 : I 0 r)
    (hs : ∀ (i : Nat) w r, ws[i]? = some w → I i r → ∃ r2, asgT tg w r = some r2 ∧ Ok b (evSL fs gs fu body r2) (fun q => q.1 = .nx ∧ I (i + 1) q.2)) : Ok (b * ws.length) (forR fs gs fu tg body r ws) (fun q => q.1 = .nx ∧ I ws.length q.2) := by
  have go : ∀ (rest : List W) (i : Nat) (r : Env), i + rest.length = ws.length → (∀ j w, rest[j]? = some w → ws[i + j]? = some w) → I i r → Ok (b * rest.length) (forR fs gs fu tg body r rest) (fun q => q.1 = .nx ∧ I ws.length q.2) := by
    intro rest
    induction rest with
    | nil =>
      intro i r hl _ hi
      have : i = ws.length := by simpa using hl
      exact Ok.ret ⟨rfl, this ▸ hi⟩
    | cons w rest ih =>
      intro i r hl hw hi
      obtain ⟨r2, h1, h2⟩ := hs i w r (by simpa using hw 0 w rfl) hi
      unfold forR
      rw [forM_cons]
      simp only [h1, opt_some, M.bind_ret]
      refine (Ok.bind (b1 := b) (b2 := b * rest.length) h2 fun q hq => ?_).imp (by rw [List.length_cons, Nat.mul_succ]; omega) fun _ z => z
      obtain ⟨fl, r3⟩ := q
      obtain ⟨e, hI⟩ := hq
      have e : fl = .nx := e
      subst e
      exact ih (i + 1) r3 (by rw [List.length_cons] at hl; omega) (fun j u hj => by
        have := hw (j + 1) u (by simpa using hj)
        rw [show i + 1 + j = i + (j + 1) by omega]
        exact this) hI
  exact go ws 0 r (by simp) (fun j w h => by simpa using h) h0
end
theorem all2_sub {α : Type} {R : α → Option PyData → Prop} (h : α → PyData) (hR : ∀ x o, R x o → o = none ∨ o = some (h x)) : ∀ {xs : List α} {os : List (Option PyData)}, All2 R xs os → ∃ zs : List α, zs.Sublist xs ∧ os.filterMap id = zs.map h
  | _, _, .nil => ⟨[], .slnil, rfl⟩
  | _, _, .cons (a := a) (as := as) r t => by
    obtain ⟨zs, h1, h2⟩ := all2_sub h hR t
    rcases hR _ _ r with rfl | rfl
    · exact ⟨zs, h1.cons _, by simpa using h2⟩
    · exact ⟨a :: zs, h1.cons_cons _, by simpa using h2⟩
theorem itRng_ok {a b : Int} (h1 : -100 ≤ a) (h2 : a ≤ 100) (h3 : -100 ≤ b) (h4 : b ≤ 100) : itRng a b = some ((List.range (b - a).toNat).map fun (k : Nat) => W.i (a + (k : Int))) := by
  unfold itRng
  rw [if_pos (by omega)]
/-! ### what comes to a goal -/
inductive Comes (ar : List (Int × Int)) (lot goal : List Int) : Int → Prop
  | here {x : Int} : x ∈ goal → Comes ar lot goal x
  | step {x y : Int} : (x, y) ∈ ar → y ∈ lot → Comes ar lot goal y → Comes ar lot goal x
theorem mem_outs {ar : List (Int × Int)} {lot : List Int} {x y : Int} : y ∈ outs ar lot x ↔ (x, y) ∈ ar ∧ y ∈ lot := by
  unfold outs
  rw [List.mem_filterMap]
  constructor
  · rintro ⟨⟨a, b⟩, h1, h2⟩
    by_cases h : a = x ∧ b ∈ lot
    · rw [if_pos h] at h2
      cases h2
      obtain ⟨rfl, h⟩ := h
      exact ⟨h1, h⟩
    · rw [if_neg h] at h2; cases h2
  · rintro ⟨h1, h2⟩
    exact ⟨(x, y), h1, by rw [if_pos ⟨rfl, h2⟩]⟩
/-- arrows go up, the lot ascends: what is found is what comes to the goal -/
theorem leadF_comes {ar : List (Int × Int)} {lot goal : List Int} (ha : ∀ p ∈ ar, p.1 < p.2) (hasc : lot.Pairwise (· < ·)) : ∀ x, x ∈ leadF ar lot goal lot.reverse [] ↔ x ∈ lot ∧ Comes ar lot goal x := by
  have go : ∀ (rest done found : List Int), rest.reverse ++ done = lot → (∀ x, x ∈ found ↔ x ∈ done ∧ Comes ar lot goal x) → ∀ x, x ∈ leadF ar lot goal rest found ↔ x ∈ lot ∧ Comes ar lot goal x := by
    intro rest
    induction rest with
    | nil =>
      intro done found h hf x
      have : done = lot := by simpa using h
      subst this
      exact hf x
    | cons z rest ih =>
      intro done found h hf x
      rw [leadF_cons]
      have hz : rest.reverse ++ (z :: done) = lot := by rw [← h]; simp
      have up : ∀ y ∈ lot, z < y → y ∈ done := by
        intro y hy hlt
        rw [← hz] at hy hasc
        rcases List.mem_append.mp hy with h1 | h1
        · have := (List.pairwise_append.mp hasc).2.2 y h1 z List.mem_cons_self
          omega
        · rcases List.mem_cons.mp h1 with rfl | h1
          · omega
          · exact h1
      have key : (z ∈ goal ∨ ∃ y ∈ outs ar lot z, y ∈ found) ↔ Comes ar lot goal z := by
        constructor
        · rintro (h1 | ⟨y, h1, h2⟩)
          · exact .here h1
          · exact .step (mem_outs.mp h1).1 (mem_outs.mp h1).2 ((hf y).mp h2).2
        · intro h1
          cases h1 with
          | here h1 => exact .inl h1
          | step h1 h2 h3 => exact .inr ⟨_, mem_outs.mpr ⟨h1, h2⟩, (hf _).mpr ⟨up _ h2 (ha _ h1), h3⟩⟩
      refine ih (z :: done) _ hz (fun y => ?_) x
      by_cases hc : z ∈ goal ∨ ∃ y ∈ outs ar lot z, y ∈ found
      · rw [if_pos hc]
        constructor
        · intro h1
          rcases List.mem_append.mp h1 with h1 | h1
          · exact ⟨List.mem_cons_of_mem _ ((hf y).mp h1).1, ((hf y).mp h1).2⟩
          · have : y = z := by simpa using h1
            subst this
            exact ⟨List.mem_cons_self, key.mp hc⟩
        · rintro ⟨h1, h2⟩
          rcases List.mem_cons.mp h1 with rfl | h1
          · exact List.mem_append_right _ (by simp)
          · exact List.mem_append_left _ ((hf y).mpr ⟨h1, h2⟩)
      · rw [if_neg hc]
        constructor
        · intro h1
          exact ⟨List.mem_cons_of_mem _ ((hf y).mp h1).1, ((hf y).mp h1).2⟩
        · rintro ⟨h1, h2⟩
          rcases List.mem_cons.mp h1 with rfl | h1
          · exact absurd (key.mpr h2) hc
          · exact (hf y).mpr ⟨h1, h2⟩
  exact go lot.reverse [] [] (by simp) (by simp)
end DS

set_option Elab.async false
set_option linter.all false
set_option autoImplicit false
set_option maxRecDepth 100000
set_option maxHeartbeats 4000000
/-! DP3: comprehensions that choose; drawings with causes; what the defs over drawings promise. -/
namespace DS
open PySem PySem.Spec PySem.SeqAt PyProof.Rows L2
theorem fm_filter {α β : Type} (p : α → Bool) (h : α → β) (xs : List α) : xs.filterMap (fun x => if p x = true then some (h x) else none) = (xs.filter p).map h := by
  induction xs with
  | nil => rfl
  | cons x xs ih => by_cases q : p x = true <;> simp [List.filterMap_cons, List.filter_cons, q, ih]
section
variable {fs : Fns} {gs : List W} {r : Env} {fu : Nat}
/-- a comprehension: what is chosen, what comes of it -/
theorem compR_fm {α : Type} {tg : Tg} {cs : EL} {elt : E} (g : α → W) (p : α → Bool) (h : α → PyData) {xs : List α} (hl : xs.length ≤ cap) (hs : ∀ x ∈ xs, stepC fs gs r tg cs elt (g x) = .ret (if p x = true then some (h x) else none)) :
    compR fs gs r tg cs elt (xs.map g) = .ret (.d (.list ((xs.filter p).map h))) := by
  rw [compR_of g (fun x => if p x = true then some (h x) else none) hl hs, fm_filter]
theorem compR_all {α : Type} {tg : Tg} {cs : EL} {elt : E} (g : α → W) (h : α → PyData) {xs : List α} (hl : xs.length ≤ cap) (hs : ∀ x ∈ xs, stepC fs gs r tg cs elt (g x) = .ret (some (h x))) :
    compR fs gs r tg cs elt (xs.map g) = .ret (.d (.list (xs.map h))) := by
  rw [compR_of g (fun x => some (h x)) hl hs]
  congr 3
  induction xs with
  | nil => rfl
  | cons x xs ih => simp
end
theorem len_pos {α : Type} (p : α → Bool) (xs : List α) : decide ((0 : Int) < (((xs.filter p).length : Nat) : Int)) = xs.any p := by
  induction xs with
  | nil => rfl
  | cons x xs ih =>
    by_cases q : p x = true
    · simp only [List.filter_cons, q, if_true, List.length_cons, List.any_cons, Bool.true_or]
      exact decide_eq_true (by omega)
    · simp only [List.filter_cons, q, Bool.false_eq_true, if_false, List.any_cons, Bool.false_or]
      simp only [ih]
theorem len_zero {α : Type} (p : α → Bool) (xs : List α) : decide ((((xs.filter p).length : Nat) : Int) = 0) = !xs.any p := by
  rw [← len_pos]
  by_cases h : (xs.filter p).length = 0
  · simp [h]
  · rw [decide_eq_false (by omega), decide_eq_true (by omega)]; rfl
theorem len_len {α : Type} (p : α → Bool) (xs : List α) : decide ((((xs.filter p).length : Nat) : Int) = (xs.length : Int)) = xs.all p := by
  induction xs with
  | nil => rfl
  | cons x xs ih =>
    by_cases q : p x = true
    · simp only [List.filter_cons, q, if_true, List.length_cons, List.all_cons, Bool.true_and, ← ih]
      exact decide_eq_decide.mpr (by omega)
    · simp only [List.filter_cons, q, Bool.false_eq_true, if_false, List.all_cons, Bool.false_and, List.length_cons]
      have := List.length_filter_le p xs
      exact decide_eq_false (by omega)
/-! ### the order of tuples of ints -/
theorem eqv_ints : ∀ a b : List Int, PyData.eqvAll (a.map PyData.int) (b.map PyData.int) = decide (a = b)
  | [], [] => rfl
  | [], _ :: _ => rfl
  | _ :: _, [] => rfl
  | x :: xs, y :: ys => by
    show (PyData.eqv (.int x) (.int y) && PyData.eqvAll (xs.map PyData.int) (ys.map PyData.int)) = _
    rw [eqv_ints xs ys]
    show (x == y && decide (xs = ys)) = _
    by_cases h : x = y <;> by_cases k : xs = ys <;> simp [h, k]
theorem eqv_tints (a b : List Int) : PyData.eqv (.tuple (a.map PyData.int)) (.tuple (b.map PyData.int)) = decide (a = b) := eqv_ints a b

/-! ### shapes -/
structure Shp (k : Nat) (d : PyData) : Prop where
  lay : d.canLay0 = true
  dep : d.depth ≤ k
theorem Shp.shaped {k : Nat} {d : PyData} (h : Shp k d) (hk : k ≤ 64) : SeqAt.shaped d = true := by
  unfold SeqAt.shaped
  rw [h.lay, decide_eq_true (Nat.le_trans h.dep hk)]; rfl
theorem Shp.int (i : Int) : Shp 0 (.int i) := ⟨rfl, Nat.le_refl _⟩
theorem Shp.bool (i : Bool) : Shp 0 (.bool i) := ⟨rfl, Nat.le_refl _⟩
theorem shp_all {k : Nat} : ∀ {ds : List PyData}, (∀ d ∈ ds, Shp k d) → PyData.canLayAll0 ds = true ∧ PyData.depthAll ds ≤ k
  | [], _ => ⟨rfl, Nat.zero_le _⟩
  | d :: ds, h => by
    obtain ⟨h1, h2⟩ := shp_all fun e he => h e (List.mem_cons_of_mem _ he)
    have h0 := h d List.mem_cons_self
    refine ⟨?_, ?_⟩
    · show (d.canLay0 && PyData.canLayAll0 ds) = true
      rw [h0.lay, h1]; rfl
    · show max d.depth (PyData.depthAll ds) ≤ k
      exact Nat.max_le.mpr ⟨h0.dep, h2⟩
theorem Shp.tup {k : Nat} {ds : List PyData} (h : ∀ d ∈ ds, Shp k d) : Shp (k + 1) (.tuple ds) := by
  obtain ⟨h1, h2⟩ := shp_all h
  exact ⟨h1, by unfold PyData.depth; omega⟩
theorem Shp.lst {k : Nat} {ds : List PyData} (h : ∀ d ∈ ds, Shp k d) : Shp (k + 1) (.list ds) := by
  obtain ⟨h1, h2⟩ := shp_all h
  exact ⟨h1, by unfold PyData.depth; omega⟩
theorem Shp.mono {k l : Nat} {d : PyData} (h : Shp k d) (hk : k ≤ l) : Shp l d := ⟨h.lay, Nat.le_trans h.dep hk⟩
theorem shp_cs (c : List Int) : Shp 1 (csD c) := .tup fun d hd => by obtain ⟨i, _, rfl⟩ := List.mem_map.mp hd; exact .int i
theorem shp_pr (p : Int × Int) : Shp 1 (prD p) := .tup fun d hd => by
  rcases List.mem_cons.mp hd with rfl | hd
  · exact .int _
  · rw [List.mem_singleton.mp hd]; exact .int _
/-- a kind of data, by its embedding -/
class Emb {α : Type} [DecidableEq α] (f : α → PyData) : Prop where
  shp : ∀ a, Shp 30 (f a)
  eqv : ∀ a b, PyData.eqv (f a) (f b) = decide (a = b)
instance : Emb PyData.int := ⟨fun a => (Shp.int a).mono (by omega), fun a b => by show (a == b) = _; by_cases h : a = b <;> simp [h]⟩
instance : Emb csD := ⟨fun a => (shp_cs a).mono (by omega), fun a b => eqv_tints a b⟩
instance : Emb prD := ⟨fun a => (shp_pr a).mono (by omega), fun a b => by
  obtain ⟨a1, a2⟩ := a
  obtain ⟨b1, b2⟩ := b
  show ((a1 == b1) && ((a2 == b2) && true)) = _
  by_cases h : a1 = b1 <;> by_cases k : a2 = b2 <;> simp [h, k]⟩
section
variable {α : Type} [DecidableEq α] (f : α → PyData) [Emb f]
theorem emb_sh (a : α) : shaped (f a) = true := (Emb.shp (f := f) a).shaped (by omega)
theorem emb_any (a : α) (xs : List α) : ((xs.map f).any fun z => PyData.eqv z (f a)) = decide (a ∈ xs) := by
  induction xs with
  | nil => rfl
  | cons x xs ih =>
    rw [List.map_cons, List.any_cons, ih, Emb.eqv (f := f)]
    by_cases h : x = a
    · subst h; simp
    · have : a ≠ x := fun z => h z.symm
      simp [h, this]
theorem emb_shT (xs : List α) : shaped (.tuple (xs.map f)) = true := (Shp.tup (k := 30) fun d hd => by obtain ⟨i, _, rfl⟩ := List.mem_map.mp hd; exact Emb.shp (f := f) i).shaped (by omega)
theorem emb_shL (xs : List α) : shaped (.list (xs.map f)) = true := (Shp.lst (k := 30) fun d hd => by obtain ⟨i, _, rfl⟩ := List.mem_map.mp hd; exact Emb.shp (f := f) i).shaped (by omega)
theorem inW_T (a : α) (xs : List α) : inW (.d (f a)) (.d (.tuple (xs.map f))) = some (decide (a ∈ xs)) := by
  unfold inW
  dsimp only
  rw [if_pos ⟨emb_sh f a, emb_shT f xs⟩, emb_any]
theorem inW_L (a : α) (xs : List α) : inW (.d (f a)) (.d (.list (xs.map f))) = some (decide (a ∈ xs)) := by
  unfold inW
  dsimp only
  rw [if_pos ⟨emb_sh f a, emb_shL f xs⟩, emb_any]
theorem emb_eqvA : ∀ (a b : List α), PyData.eqvAll (a.map f) (b.map f) = decide (a = b)
  | [], [] => rfl
  | [], _ :: _ => rfl
  | _ :: _, [] => rfl
  | x :: xs, y :: ys => by
    show (PyData.eqv (f x) (f y) && PyData.eqvAll (xs.map f) (ys.map f)) = _
    rw [emb_eqvA xs ys, Emb.eqv (f := f)]
    by_cases h : x = y <;> by_cases k : xs = ys <;> simp [h, k]
theorem eqW_T (a b : List α) : eqW (.d (.tuple (a.map f))) (.d (.tuple (b.map f))) = some (decide (a = b)) := by
  unfold eqW
  dsimp only
  rw [if_pos ⟨emb_shT f a, emb_shT f b⟩]
  show some (PyData.eqvAll (a.map f) (b.map f)) = _
  rw [emb_eqvA]
theorem eqW_L (a b : List α) : eqW (.d (.list (a.map f))) (.d (.list (b.map f))) = some (decide (a = b)) := by
  unfold eqW
  dsimp only
  rw [if_pos ⟨emb_shL f a, emb_shL f b⟩]
  show some (PyData.eqvAll (a.map f) (b.map f)) = _
  rw [emb_eqvA]
theorem eqW_E (a b : α) : eqW (.d (f a)) (.d (f b)) = some (decide (a = b)) := by
  unfold eqW
  dsimp only
  rw [if_pos ⟨emb_sh f a, emb_sh f b⟩, Emb.eqv (f := f)]
end
@[simp] theorem inW_pairs (a b : Int) (xs : List (Int × Int)) : inW (.d (.tuple [.int a, .int b])) (.d (.tuple (xs.map prD))) = some (decide ((a, b) ∈ xs)) := (inW_T prD (a, b) xs).trans (congrArg some (decide_eq_decide.mpr Iff.rfl))
theorem eqW_ones {α : Type} (xs : List α) (c : Int) : eqW (.d (.list (xs.map fun _ => PyData.int c))) (.d (.list [])) = some xs.isEmpty := by
  have h := eqW_L PyData.int (xs.map fun _ => c) []
  rw [List.map_map] at h
  have e : (PyData.int ∘ fun _ => c : α → PyData) = fun _ => PyData.int c := rfl
  rw [e, List.map_nil] at h
  rw [h]
  cases xs <;> rfl
/-! ### lexical order -/
theorem ordDs_lex : ∀ a b : List Int, ordDs .lt (a.map PyData.int) (b.map PyData.int) = some (HT.lexLt a b) ∧ ordDs .ge (a.map PyData.int) (b.map PyData.int) = some (!HT.lexLt a b)
  | [], [] => ⟨rfl, rfl⟩
  | [], y :: ys => ⟨by simp [ordDs, szB, HT.lexLt_nil_cons], by simp [ordDs, szB, HT.lexLt_nil_cons]⟩
  | x :: xs, [] => ⟨by simp [ordDs, szB, HT.lexLt_cons_nil], by simp [ordDs, szB, HT.lexLt_cons_nil]⟩
  | x :: xs, y :: ys => by
    obtain ⟨h1, h2⟩ := ordDs_lex xs ys
    have e : PyData.eqv (.int x) (.int y) = decide (x = y) := Emb.eqv (f := PyData.int) x y
    rw [HT.lexLt_cons]
    constructor
    · simp only [List.map_cons, ordDs, h1, e, ordD, intB]
      by_cases h : x = y <;> simp [h]
    · simp only [List.map_cons, ordDs, h2, e, ordD, intB]
      by_cases h : x = y
      · simp [h]
      · simp only [h, decide_false, Bool.false_eq_true, if_false]
        congr 1
        by_cases k : x < y
        · rw [decide_eq_true k, decide_eq_false (by omega)]; rfl
        · rw [decide_eq_false k, decide_eq_true (by omega)]; rfl
theorem ord_cs {a b : List Int} (h : HT.lexLt a b = true) : ordW .ge (.d (csD a)) (.d (csD b)) = some false := by
  unfold ordW
  dsimp only
  rw [if_pos ⟨emb_sh csD a, emb_sh csD b⟩]
  show ordDs .ge (a.map PyData.int) (b.map PyData.int) = _
  rw [(ordDs_lex a b).2, h]; rfl
end DS

set_option Elab.async false
set_option linter.all false
set_option autoImplicit false
set_option maxRecDepth 100000
set_option maxHeartbeats 4000000
/-! DP4: what the defs over drawings promise. -/
namespace DS
open PySem PySem.Spec PySem.SeqAt PyProof.Rows L2
abbrev Fn1 := List W → M W
section
variable {fs : Fns} {gs : List W} {r : Env} {fu : Nat}
/-! ### loops with a condition -/
def whlR (fs : Fns) (gs : List W) (fu : Nat) (c : E) (body : SL) (r : Env) : M (Fl × Env) := whileM (fun r1 => if (escE false c).all (fun i => (ownAt r1 i).isNone) then (evE fs gs r1 false c).bind (fun x => opt (wBool x)) else .stuck) (fun r1 => evSL fs gs fu body r1) fu r
theorem t_whl (c : E) (body : SL) : evS fs gs fu (.whl c body) r = whlR fs gs fu c body r := (rfl)
theorem t_pop (j i : Nat) : evS fs gs fu (.popTo j i) r = match ownL r i with
    | some ds => match ds.getLast? with
      | some x => if j < r.length then .ret (.nx, (r.set i (.ow (.d (.list ds.dropLast)))).set j (.sh (.d x))) else .stuck
      | none => .stuck
    | none => .stuck := (rfl)
theorem whlR_ok {σ : Type} {c : E} {body : SL} (emb : σ → Env) (I : σ → Prop) (m : σ → Nat) (cB : σ → Bool) (nx : σ → σ) {s0 : σ} (h0 : I s0) (hm : m s0 < fu)
    (hc : ∀ s, I s → (if (escE false c).all (fun i => (ownAt (emb s) i).isNone) then (evE fs gs (emb s) false c).bind (fun x => opt (wBool x)) else .stuck) = .ret (cB s))
    (hs : ∀ s, I s → cB s = true → evSL fs gs fu body (emb s) = .ret (.nx, emb (nx s)) ∧ I (nx s) ∧ m (nx s) < m s) : ∃ s', I s' ∧ cB s' = false ∧ whlR fs gs fu c body (emb s0) = .ret (.nx, emb s') := by
  unfold whlR
  have go : ∀ k s, I s → m s < k → ∃ s', I s' ∧ cB s' = false ∧ whileM (fun r1 => if (escE false c).all (fun i => (ownAt r1 i).isNone) then (evE fs gs r1 false c).bind (fun x => opt (wBool x)) else .stuck) (fun r1 => evSL fs gs fu body r1) k (emb s) = .ret (.nx, emb s') := by
    intro k
    induction k with
    | zero => intro s _ h; omega
    | succ k ih =>
      intro s hI hk
      unfold whileM
      rw [hc s hI, M.bind_ret]
      cases hb : cB s with
      | false => exact ⟨s, hI, hb, by rw [if_neg (by simp)]⟩
      | true =>
        rw [if_pos rfl]
        obtain ⟨h1, h2, h3⟩ := hs s hI hb
        rw [h1, M.bind_ret]
        exact ih (nx s) h2 (by omega)
  exact go fu s0 h0 hm
end
theorem applyF_lt {fs : Fns} {j : Nat} {ws : List W} {w : W} (h : applyF fs j ws = .ret w) : j < fs.length := by
  unfold applyF at h
  split at h
  · exact get_lt' (by assumption)
  · cases h
/-! ### what is a drawing -/
structure CsOk (n : Int) (cs : List (List Int)) : Prop where
  ok : ∀ c ∈ cs, SetOk (n - 1) c ∧ 2 ≤ c.length
  asc : cs.Pairwise fun a b => HT.lexLt a b = true
  few : cs.length ≤ 20
structure DrOk (n : Int) (ar : List (Int × Int)) (cs : List (List Int)) : Prop where
  lo : 1 ≤ n
  hi : n ≤ 10
  ar : ArOk n ar
  cs : CsOk n cs
theorem cs_ascend {n : Int} {cs : List (List Int)} (h : CsOk n cs) : Ascend (cs.map csD) := by
  intro i d e h1 h2
  rw [List.getElem?_map] at h1 h2
  cases q1 : cs[i]? with
  | none => rw [q1] at h1; cases h1
  | some p =>
    cases q2 : cs[i + 1]? with
    | none => rw [q2] at h2; cases h2
    | some q =>
      rw [q1] at h1; rw [q2] at h2
      cases h1; cases h2
      have l2 := get_lt' q2
      have l1 := get_lt' q1
      have := List.pairwise_iff_getElem.mp h.asc i (i + 1) l1 l2 (by omega)
      rw [List.getElem?_eq_getElem l1] at q1
      rw [List.getElem?_eq_getElem l2] at q2
      cases q1; cases q2
      exact ord_cs this
/-! ### promises -/
def SpIsFrom (F : Fn1) : Prop := ∀ x lo hi : Int, F [.i x, .i lo, .i hi] = .ret (.b (decide (lo ≤ x) && decide (x ≤ hi)))
def SpIsSet (F : Fn1) : Prop := ∀ m xs, SetOk m xs → F [tI xs, .i m] = .ret (.b true)
def SpIsArrow (F : Fn1) : Prop := ∀ n p, ArrowOk n p → F [.i n, .d (prD p)] = .ret (.b true)
def SpIsCause (F : Fn1) : Prop := ∀ (n : Int) c, SetOk (n - 1) c → 2 ≤ c.length → F [.i n, .d (csD c)] = .ret (.b true)
def SpItems (F : Fn1) (J : Nat → Fn1) : Prop := ∀ (n : Int) (ds : List PyData) (pl : W) (j : Nat), (∀ d ∈ ds, J j [.i n, .d d] = .ret (.b true)) → Ascend ds → F [.i n, .d (.tuple ds), pl, .fn j] = .ret (.d .none)
def SpDrawing (F : Fn1) : Prop := ∀ n ar cs, DrOk n ar cs → F [drW n ar cs] = .ret (drW n ar cs)
def SpThing (F : Fn1) : Prop := ∀ n ar cs (x : Int), 0 ≤ x → x < n → F [drW n ar cs, .i x] = .ret (.i x)
def SpLot (F : Fn1) : Prop := ∀ n ar cs xs, SetOk (n - 1) xs → F [drW n ar cs, tI xs] = .ret (tI xs)
def SpWithin (F : Fn1) : Prop := ∀ xs ys : List Int, ys.length ≤ cap → F [tI xs, tI ys] = .ret (.b (ys.all fun y => decide (y ∈ xs)))
def SpCheckWithin (F : Fn1) : Prop := ∀ n ar cs lot xs, SetOk (n - 1) xs → (∀ x ∈ xs, x ∈ lot) → F [drW n ar cs, tI lot, tI xs] = .ret (tI xs)
def SpEvery (F : Fn1) : Prop := ∀ (n : Int) ar cs, 0 ≤ n → n ≤ cap → F [drW n ar cs] = .ret (tI (upto n))
def SpLess (F : Fn1) : Prop := ∀ xs ys : List Int, xs.length ≤ cap → F [tI xs, tI ys] = .ret (tI (xs.filter fun x => decide (x ∉ ys)))
def insF (ar : List (Int × Int)) (lot : List Int) (x : Int) : List Int := (ar.filter fun p => decide (p.2 = x) && decide (p.1 ∈ lot)).map (·.1)
def outF (ar : List (Int × Int)) (lot : List Int) (x : Int) : List Int := (ar.filter fun p => decide (p.1 = x) && decide (p.2 ∈ lot)).map (·.2)
def causesL (cs : List (List Int)) (x : Int) : List Int := (cs.zipIdx.filter fun p => decide (x ∈ p.1)).map fun p => (p.2 : Int)
def linkB (cs : List (List Int)) (a b : Int) : Bool := cs.any fun c => decide (a ∈ c) && decide (b ∈ c)
def SpParents (F : Fn1) : Prop := ∀ n ar cs lot (x : Int), ar.length ≤ cap → F [drW n ar cs, tI lot, .i x] = .ret (tI (insF ar lot x))
def SpChildren (F : Fn1) : Prop := ∀ n ar cs lot (x : Int), ar.length ≤ cap → F [drW n ar cs, tI lot, .i x] = .ret (tI (outF ar lot x))
def SpCauses (F : Fn1) : Prop := ∀ n ar cs (x : Int), cs.length ≤ cap → F [drW n ar cs, .i x] = .ret (tI (causesL cs x))
def SpLinked (F : Fn1) : Prop := ∀ n ar cs (a b : Int), cs.length ≤ cap → F [drW n ar cs, .i a, .i b] = .ret (.b (linkB cs a b))
def SpLeadSo (F : Fn1) : Prop := ∀ n ar cs lot goal, lot.Nodup → lot.length < 64 → ar.length ≤ cap → F [drW n ar cs, tI lot, tI goal] = .ret (tI (leadL ar lot goal))
section
variable {fs : Fns} {gs : List W} {fu : Nat}
theorem outF_outs (ar : List (Int × Int)) (lot : List Int) (x : Int) : outF ar lot x = outs ar lot x := by
  unfold outF outs
  rw [← fm_filter]
  congr 1
  funext p
  by_cases h : p.1 = x <;> by_cases k : p.2 ∈ lot <;> simp [h, k]
theorem sp_is_from : SpIsFrom (evD fs gs fu 3 3 PB_is_from) := fun x lo hi => is_from_int x lo hi
theorem sp_is_set {i_is_from : Nat} (h : SpIsFrom (applyF fs i_is_from)) : SpIsSet (evD fs gs fu 5 2 (PB_is_set i_is_from)) := fun m xs hs => is_set_ok h hs
theorem sp_is_arrow {i_is_from : Nat} (h : SpIsFrom (applyF fs i_is_from)) : SpIsArrow (evD fs gs fu 2 2 (PB_is_arrow i_is_from)) := fun n p hp => is_arrow_ok h hp
theorem sp_is_cause {i_is_set : Nat} (h : SpIsSet (applyF fs i_is_set)) : SpIsCause (evD fs gs fu 2 2 (PB_is_cause i_is_set)) := fun n c hc hl => by
  rw [d_run 2 2 _ _ rfl]
  have e : applyF fs i_is_set [.d (csD c), .i (n - 1)] = _ := h _ _ hc
  have l : (1 : Int) < (c.length : Int) := by omega
  simp only [csD, W.i] at e
  simp [PB_is_cause, v_v, v_non, v_bl, v_int, v_str, v_gl, v_fn, v_tup, v_lst, v_dnew, v_bin, v_neg, v_cmp, v_chain, v_isN, v_notN, v_bop, v_b1, v_b2, v_not, v_ite, v_ix, v_sl, v_call, v_callk, v_callv, v_bi, v_isi, v_comp, itB, escB, l_nil, l_cons, o_nil, o_cons, c_nil', c_cons', i_of', i_rng1', i_rng2', i_enum', i_zip', i_rev', s_nil', s_cons', t_asg, t_par, t_ret, t_retN, t_ite, t_for, t_ex, t_put, t_app, t_ext, t_brk, t_cnt, cmpK, iteK, notK, bopK, tupK, lstK, iteS, asgK, parK, escE, escL, escI, dem, dem1, getN, binW, addW, mulW, int2, b1W, lenW, tupleW, listW, intW, isiW, ixW, cmpW, wBool, wInt, isNone, asgE, asgT, asgTs, Tg.is, TgL.is, wipeE, fresh, isBox, datas, W.data?, opt_some, opt_none, M.bind_ret, M.bind_stuck, M.nox_ret, itOf, itEnum, itZip, itRev, ownAt, ownL, W.i, W.b, List.map_cons, List.map_nil, List.set, List.getElem?_cons_zero, List.getElem?_cons_succ, List.length_cons, List.length_nil, List.replicate, List.append_nil, List.nil_append, List.cons_append, ite_true, ite_false, Bool.false_eq_true, reduceCtorEq, if_true, if_false, seqK_nx, seqK_rt, seqK_bk, seqK_ct, finK_rt, finK_nx, csD, e, intB, l]
theorem sp_check_items {J : Nat → Fn1} (hJ : ∀ j ws w, J j ws = .ret w → j < fs.length ∧ applyF fs j ws = .ret w) : SpItems (evD fs gs fu 6 4 PB_check_items) J := fun n ds pl j hd ha => by
  by_cases hj : j < fs.length
  · exact check_items_ok hj (fun d hm => (hJ j _ _ (hd d hm)).2) ha
  · cases ds with
    | nil =>
      rw [d_run 6 4 _ _ rfl]
      simp [PB_check_items, v_v, v_non, v_bl, v_int, v_str, v_gl, v_fn, v_tup, v_lst, v_dnew, v_bin, v_neg, v_cmp, v_chain, v_isN, v_notN, v_bop, v_b1, v_b2, v_not, v_ite, v_ix, v_sl, v_call, v_callk, v_callv, v_bi, v_isi, v_comp, itB, escB, l_nil, l_cons, o_nil, o_cons, c_nil', c_cons', i_of', i_rng1', i_rng2', i_enum', i_zip', i_rev', s_nil', s_cons', t_asg, t_par, t_ret, t_retN, t_ite, t_for, t_ex, t_put, t_app, t_ext, t_brk, t_cnt, cmpK, iteK, notK, bopK, tupK, lstK, iteS, asgK, parK, escE, escL, escI, dem, dem1, getN, binW, addW, mulW, int2, b1W, lenW, tupleW, listW, intW, isiW, ixW, cmpW, wBool, wInt, isNone, asgE, asgT, asgTs, Tg.is, TgL.is, wipeE, fresh, isBox, datas, W.data?, opt_some, opt_none, M.bind_ret, M.bind_stuck, M.nox_ret, itOf, itEnum, itZip, itRev, ownAt, ownL, W.i, W.b, List.map_cons, List.map_nil, List.set, List.getElem?_cons_zero, List.getElem?_cons_succ, List.length_cons, List.length_nil, List.replicate, List.append_nil, List.nil_append, List.cons_append, ite_true, ite_false, Bool.false_eq_true, reduceCtorEq, if_true, if_false, seqK_nx, seqK_rt, seqK_bk, seqK_ct, finK_rt, finK_nx, enumD, forR, forM]
    | cons d ds => exact absurd (hJ j _ _ (hd d List.mem_cons_self)).1 hj
theorem sp_check_drawing {i_check_items i_is_cause g_MOST_CAUSES i_is_arrow i_is_from g_MOST_THINGS : Nat} {J : Nat → Fn1} (h1 : SpItems (applyF fs i_check_items) J) (h2 : SpIsCause (J i_is_cause)) (g1 : gs[g_MOST_CAUSES]? = some (.i 20)) (h3 : SpIsArrow (J i_is_arrow)) (h4 : SpIsFrom (applyF fs i_is_from)) (g2 : gs[g_MOST_THINGS]? = some (.i 10)) :
    SpDrawing (evD fs gs fu 4 1 (PB_check_drawing i_check_items i_is_cause g_MOST_CAUSES i_is_arrow i_is_from g_MOST_THINGS)) := fun n ar cs d =>
  check_drawing_ok h4 g2 g1 d.lo d.hi d.cs.few (h1 _ _ _ _ (fun e he => by obtain ⟨p, hp, rfl⟩ := List.mem_map.mp he; exact h3 _ _ (d.ar.ok p hp)) (ar_ascend d.ar))
    (h1 _ _ _ _ (fun e he => by obtain ⟨p, hp, rfl⟩ := List.mem_map.mp he; exact h2 _ _ (d.cs.ok p hp).1 (d.cs.ok p hp).2) (cs_ascend d.cs))
theorem dr0 {n : Int} {ar : List (Int × Int)} {cs : List (List Int)} : atI [PyData.int n, PyData.tuple (ar.map prD), PyData.tuple (cs.map csD)] 0 = some (.int n) := rfl
theorem dr1 {n : Int} {ar : List (Int × Int)} {cs : List (List Int)} : atI [PyData.int n, PyData.tuple (ar.map prD), PyData.tuple (cs.map csD)] 1 = some (.tuple (ar.map prD)) := rfl
theorem dr2 {n : Int} {ar : List (Int × Int)} {cs : List (List Int)} : atI [PyData.int n, PyData.tuple (ar.map prD), PyData.tuple (cs.map csD)] 2 = some (.tuple (cs.map csD)) := rfl
theorem sp_check_thing {i_is_from : Nat} (h : SpIsFrom (applyF fs i_is_from)) : SpThing (evD fs gs fu 2 2 (PB_check_thing i_is_from)) := fun n ar cs x h0 h1 => by
  rw [d_run 2 2 _ _ rfl]
  have e : applyF fs i_is_from [.i x, .i 0, .i (n - 1)] = _ := h x 0 (n - 1)
  have h2 : x ≤ n - 1 := by omega
  simp [W.i] at e
  simp [PB_check_thing, v_v, v_non, v_bl, v_int, v_str, v_gl, v_fn, v_tup, v_lst, v_dnew, v_bin, v_neg, v_cmp, v_chain, v_isN, v_notN, v_bop, v_b1, v_b2, v_not, v_ite, v_ix, v_sl, v_call, v_callk, v_callv, v_bi, v_isi, v_comp, itB, escB, l_nil, l_cons, o_nil, o_cons, c_nil', c_cons', i_of', i_rng1', i_rng2', i_enum', i_zip', i_rev', s_nil', s_cons', t_asg, t_par, t_ret, t_retN, t_ite, t_for, t_ex, t_put, t_app, t_ext, t_brk, t_cnt, cmpK, iteK, notK, bopK, tupK, lstK, iteS, asgK, parK, escE, escL, escI, dem, dem1, getN, binW, addW, mulW, int2, b1W, lenW, tupleW, listW, intW, isiW, ixW, cmpW, wBool, wInt, isNone, asgE, asgT, asgTs, Tg.is, TgL.is, wipeE, fresh, isBox, datas, W.data?, opt_some, opt_none, M.bind_ret, M.bind_stuck, M.nox_ret, itOf, itEnum, itZip, itRev, ownAt, ownL, W.i, W.b, List.map_cons, List.map_nil, List.set, List.getElem?_cons_zero, List.getElem?_cons_succ, List.length_cons, List.length_nil, List.replicate, List.append_nil, List.nil_append, List.cons_append, ite_true, ite_false, Bool.false_eq_true, reduceCtorEq, if_true, if_false, seqK_nx, seqK_rt, seqK_bk, seqK_ct, finK_rt, finK_nx, drW, dr0, e, h0, h2]
theorem sp_check_lot {i_is_set : Nat} (h : SpIsSet (applyF fs i_is_set)) : SpLot (evD fs gs fu 2 2 (PB_check_lot i_is_set)) := fun n ar cs xs hs => check_lot_ok (h _ _ hs)
theorem sp_is_within : SpWithin (evD fs gs fu 3 2 PB_is_within) := fun xs ys hl => by
  rw [d_run 3 2 _ _ rfl]
  simp [PB_is_within, v_v, v_non, v_bl, v_int, v_str, v_gl, v_fn, v_tup, v_lst, v_dnew, v_bin, v_neg, v_cmp, v_chain, v_isN, v_notN, v_bop, v_b1, v_b2, v_not, v_ite, v_ix, v_sl, v_call, v_callk, v_callv, v_bi, v_isi, v_comp, itB, escB, l_nil, l_cons, o_nil, o_cons, c_nil', c_cons', i_of', i_rng1', i_rng2', i_enum', i_zip', i_rev', s_nil', s_cons', t_asg, t_par, t_ret, t_retN, t_ite, t_for, t_ex, t_put, t_app, t_ext, t_brk, t_cnt, cmpK, iteK, notK, bopK, tupK, lstK, iteS, asgK, parK, escE, escL, escI, dem, dem1, getN, binW, addW, mulW, int2, b1W, lenW, tupleW, listW, intW, isiW, ixW, cmpW, wBool, wInt, isNone, asgE, asgT, asgTs, Tg.is, TgL.is, wipeE, fresh, isBox, datas, W.data?, opt_some, opt_none, M.bind_ret, M.bind_stuck, M.nox_ret, itOf, itEnum, itZip, itRev, ownAt, ownL, W.i, W.b, List.map_cons, List.map_nil, List.set, List.getElem?_cons_zero, List.getElem?_cons_succ, List.length_cons, List.length_nil, List.replicate, List.append_nil, List.nil_append, List.cons_append, ite_true, ite_false, Bool.false_eq_true, reduceCtorEq, if_true, if_false, seqK_nx, seqK_rt, seqK_bk, seqK_ct, finK_rt, finK_nx, tI]
  rw [compR_fm (W.d ∘ PyData.int) (fun y => !decide (y ∈ xs)) (fun _ => .int 1) hl (fun y hy => by by_cases h : y ∈ xs <;> simp [stepC, v_v, v_non, v_bl, v_int, v_str, v_gl, v_fn, v_tup, v_lst, v_dnew, v_bin, v_neg, v_cmp, v_chain, v_isN, v_notN, v_bop, v_b1, v_b2, v_not, v_ite, v_ix, v_sl, v_call, v_callk, v_callv, v_bi, v_isi, v_comp, itB, escB, l_nil, l_cons, o_nil, o_cons, c_nil', c_cons', i_of', i_rng1', i_rng2', i_enum', i_zip', i_rev', s_nil', s_cons', t_asg, t_par, t_ret, t_retN, t_ite, t_for, t_ex, t_put, t_app, t_ext, t_brk, t_cnt, cmpK, iteK, notK, bopK, tupK, lstK, iteS, asgK, parK, escE, escL, escI, dem, dem1, getN, binW, addW, mulW, int2, b1W, lenW, tupleW, listW, intW, isiW, ixW, cmpW, wBool, wInt, isNone, asgE, asgT, asgTs, Tg.is, TgL.is, wipeE, fresh, isBox, datas, W.data?, opt_some, opt_none, M.bind_ret, M.bind_stuck, M.nox_ret, itOf, itEnum, itZip, itRev, ownAt, ownL, W.i, W.b, List.map_cons, List.map_nil, List.set, List.getElem?_cons_zero, List.getElem?_cons_succ, List.length_cons, List.length_nil, List.replicate, List.append_nil, List.nil_append, List.cons_append, ite_true, ite_false, Bool.false_eq_true, reduceCtorEq, if_true, if_false, seqK_nx, seqK_rt, seqK_bk, seqK_ct, finK_rt, finK_nx, h])]
  simp [v_v, v_non, v_bl, v_int, v_str, v_gl, v_fn, v_tup, v_lst, v_dnew, v_bin, v_neg, v_cmp, v_chain, v_isN, v_notN, v_bop, v_b1, v_b2, v_not, v_ite, v_ix, v_sl, v_call, v_callk, v_callv, v_bi, v_isi, v_comp, itB, escB, l_nil, l_cons, o_nil, o_cons, c_nil', c_cons', i_of', i_rng1', i_rng2', i_enum', i_zip', i_rev', s_nil', s_cons', t_asg, t_par, t_ret, t_retN, t_ite, t_for, t_ex, t_put, t_app, t_ext, t_brk, t_cnt, cmpK, iteK, notK, bopK, tupK, lstK, iteS, asgK, parK, escE, escL, escI, dem, dem1, getN, binW, addW, mulW, int2, b1W, lenW, tupleW, listW, intW, isiW, ixW, cmpW, wBool, wInt, isNone, asgE, asgT, asgTs, Tg.is, TgL.is, wipeE, fresh, isBox, datas, W.data?, opt_some, opt_none, M.bind_ret, M.bind_stuck, M.nox_ret, itOf, itEnum, itZip, itRev, ownAt, ownL, W.i, W.b, List.map_cons, List.map_nil, List.set, List.getElem?_cons_zero, List.getElem?_cons_succ, List.length_cons, List.length_nil, List.replicate, List.append_nil, List.nil_append, List.cons_append, ite_true, ite_false, Bool.false_eq_true, reduceCtorEq, if_true, if_false, seqK_nx, seqK_rt, seqK_bk, seqK_ct, finK_rt, finK_nx]
  congr 1
  rw [Bool.eq_iff_iff]
  simp
theorem sp_check_within {i_is_within i_check_lot : Nat} (h1 : SpWithin (applyF fs i_is_within)) (h2 : SpLot (applyF fs i_check_lot)) : SpCheckWithin (evD fs gs fu 3 3 (PB_check_within i_is_within i_check_lot)) := fun n ar cs lot xs hs hw =>
  check_within_ok (h2 _ _ _ _ hs) (by rw [h1 _ _ hs.few, List.all_eq_true.mpr (fun x hx => decide_eq_true (hw x hx))])
theorem sp_every_so : SpEvery (evD fs gs fu 1 1 PB_every_so) := fun n ar cs h0 h1 => every_so_ok h0 h1
theorem sp_less_so : SpLess (evD fs gs fu 3 2 PB_less_so) := fun xs ys hl => less_so_ok hl
theorem sp_parents_so : SpParents (evD fs gs fu 5 3 PB_parents_so) := fun n ar cs lot x hl => by
  rw [d_run 5 3 _ _ rfl]
  simp [PB_parents_so, v_v, v_non, v_bl, v_int, v_str, v_gl, v_fn, v_tup, v_lst, v_dnew, v_bin, v_neg, v_cmp, v_chain, v_isN, v_notN, v_bop, v_b1, v_b2, v_not, v_ite, v_ix, v_sl, v_call, v_callk, v_callv, v_bi, v_isi, v_comp, itB, escB, l_nil, l_cons, o_nil, o_cons, c_nil', c_cons', i_of', i_rng1', i_rng2', i_enum', i_zip', i_rev', s_nil', s_cons', t_asg, t_par, t_ret, t_retN, t_ite, t_for, t_ex, t_put, t_app, t_ext, t_brk, t_cnt, cmpK, iteK, notK, bopK, tupK, lstK, iteS, asgK, parK, escE, escL, escI, dem, dem1, getN, binW, addW, mulW, int2, b1W, lenW, tupleW, listW, intW, isiW, ixW, cmpW, wBool, wInt, isNone, asgE, asgT, asgTs, Tg.is, TgL.is, wipeE, fresh, isBox, datas, W.data?, opt_some, opt_none, M.bind_ret, M.bind_stuck, M.nox_ret, itOf, itEnum, itZip, itRev, ownAt, ownL, W.i, W.b, List.map_cons, List.map_nil, List.set, List.getElem?_cons_zero, List.getElem?_cons_succ, List.length_cons, List.length_nil, List.replicate, List.append_nil, List.nil_append, List.cons_append, ite_true, ite_false, Bool.false_eq_true, reduceCtorEq, if_true, if_false, seqK_nx, seqK_rt, seqK_bk, seqK_ct, finK_rt, finK_nx, drW, dr1, tI]
  rw [compR_fm (W.d ∘ prD) (fun p => decide (p.2 = x) && decide (p.1 ∈ lot)) (fun p => .int p.1) hl (fun p hp => by by_cases h : p.2 = x <;> by_cases h2 : p.1 ∈ lot <;> simp [stepC, v_v, v_non, v_bl, v_int, v_str, v_gl, v_fn, v_tup, v_lst, v_dnew, v_bin, v_neg, v_cmp, v_chain, v_isN, v_notN, v_bop, v_b1, v_b2, v_not, v_ite, v_ix, v_sl, v_call, v_callk, v_callv, v_bi, v_isi, v_comp, itB, escB, l_nil, l_cons, o_nil, o_cons, c_nil', c_cons', i_of', i_rng1', i_rng2', i_enum', i_zip', i_rev', s_nil', s_cons', t_asg, t_par, t_ret, t_retN, t_ite, t_for, t_ex, t_put, t_app, t_ext, t_brk, t_cnt, cmpK, iteK, notK, bopK, tupK, lstK, iteS, asgK, parK, escE, escL, escI, dem, dem1, getN, binW, addW, mulW, int2, b1W, lenW, tupleW, listW, intW, isiW, ixW, cmpW, wBool, wInt, isNone, asgE, asgT, asgTs, Tg.is, TgL.is, wipeE, fresh, isBox, datas, W.data?, opt_some, opt_none, M.bind_ret, M.bind_stuck, M.nox_ret, itOf, itEnum, itZip, itRev, ownAt, ownL, W.i, W.b, List.map_cons, List.map_nil, List.set, List.getElem?_cons_zero, List.getElem?_cons_succ, List.length_cons, List.length_nil, List.replicate, List.append_nil, List.nil_append, List.cons_append, ite_true, ite_false, Bool.false_eq_true, reduceCtorEq, if_true, if_false, seqK_nx, seqK_rt, seqK_bk, seqK_ct, finK_rt, finK_nx, prD, h, h2])]
  simp [v_v, v_non, v_bl, v_int, v_str, v_gl, v_fn, v_tup, v_lst, v_dnew, v_bin, v_neg, v_cmp, v_chain, v_isN, v_notN, v_bop, v_b1, v_b2, v_not, v_ite, v_ix, v_sl, v_call, v_callk, v_callv, v_bi, v_isi, v_comp, itB, escB, l_nil, l_cons, o_nil, o_cons, c_nil', c_cons', i_of', i_rng1', i_rng2', i_enum', i_zip', i_rev', s_nil', s_cons', t_asg, t_par, t_ret, t_retN, t_ite, t_for, t_ex, t_put, t_app, t_ext, t_brk, t_cnt, cmpK, iteK, notK, bopK, tupK, lstK, iteS, asgK, parK, escE, escL, escI, dem, dem1, getN, binW, addW, mulW, int2, b1W, lenW, tupleW, listW, intW, isiW, ixW, cmpW, wBool, wInt, isNone, asgE, asgT, asgTs, Tg.is, TgL.is, wipeE, fresh, isBox, datas, W.data?, opt_some, opt_none, M.bind_ret, M.bind_stuck, M.nox_ret, itOf, itEnum, itZip, itRev, ownAt, ownL, W.i, W.b, List.map_cons, List.map_nil, List.set, List.getElem?_cons_zero, List.getElem?_cons_succ, List.length_cons, List.length_nil, List.replicate, List.append_nil, List.nil_append, List.cons_append, ite_true, ite_false, Bool.false_eq_true, reduceCtorEq, if_true, if_false, seqK_nx, seqK_rt, seqK_bk, seqK_ct, finK_rt, finK_nx, insF]
theorem sp_children_so : SpChildren (evD fs gs fu 5 3 PB_children_so) := fun n ar cs lot x hl => by rw [outF_outs]; exact children_so_ok hl
theorem enumD_map {α : Type} (f : α → PyData) (xs : List α) : enumD (xs.map f) = xs.zipIdx.map fun p => W.d (.tuple [.int (p.2 : Nat), f p.1]) := by
  unfold enumD
  rw [List.zipIdx_map, List.map_map]
  rfl
theorem sp_causes_so : SpCauses (evD fs gs fu 4 2 PB_causes_so) := fun n ar cs x hl => by
  rw [d_run 4 2 _ _ rfl]
  simp [PB_causes_so, v_v, v_non, v_bl, v_int, v_str, v_gl, v_fn, v_tup, v_lst, v_dnew, v_bin, v_neg, v_cmp, v_chain, v_isN, v_notN, v_bop, v_b1, v_b2, v_not, v_ite, v_ix, v_sl, v_call, v_callk, v_callv, v_bi, v_isi, v_comp, itB, escB, l_nil, l_cons, o_nil, o_cons, c_nil', c_cons', i_of', i_rng1', i_rng2', i_enum', i_zip', i_rev', s_nil', s_cons', t_asg, t_par, t_ret, t_retN, t_ite, t_for, t_ex, t_put, t_app, t_ext, t_brk, t_cnt, cmpK, iteK, notK, bopK, tupK, lstK, iteS, asgK, parK, escE, escL, escI, dem, dem1, getN, binW, addW, mulW, int2, b1W, lenW, tupleW, listW, intW, isiW, ixW, cmpW, wBool, wInt, isNone, asgE, asgT, asgTs, Tg.is, TgL.is, wipeE, fresh, isBox, datas, W.data?, opt_some, opt_none, M.bind_ret, M.bind_stuck, M.nox_ret, itOf, itEnum, itZip, itRev, ownAt, ownL, W.i, W.b, List.map_cons, List.map_nil, List.set, List.getElem?_cons_zero, List.getElem?_cons_succ, List.length_cons, List.length_nil, List.replicate, List.append_nil, List.nil_append, List.cons_append, ite_true, ite_false, Bool.false_eq_true, reduceCtorEq, if_true, if_false, seqK_nx, seqK_rt, seqK_bk, seqK_ct, finK_rt, finK_nx, drW, dr2, tI, enumD_map]
  rw [compR_fm (fun p : List Int × Nat => W.d (.tuple [.int (p.2 : Nat), csD p.1])) (fun p => decide (x ∈ p.1)) (fun p => .int (p.2 : Nat)) (by simpa using hl) (fun p hp => by by_cases h : x ∈ p.1 <;> simp [stepC, v_v, v_non, v_bl, v_int, v_str, v_gl, v_fn, v_tup, v_lst, v_dnew, v_bin, v_neg, v_cmp, v_chain, v_isN, v_notN, v_bop, v_b1, v_b2, v_not, v_ite, v_ix, v_sl, v_call, v_callk, v_callv, v_bi, v_isi, v_comp, itB, escB, l_nil, l_cons, o_nil, o_cons, c_nil', c_cons', i_of', i_rng1', i_rng2', i_enum', i_zip', i_rev', s_nil', s_cons', t_asg, t_par, t_ret, t_retN, t_ite, t_for, t_ex, t_put, t_app, t_ext, t_brk, t_cnt, cmpK, iteK, notK, bopK, tupK, lstK, iteS, asgK, parK, escE, escL, escI, dem, dem1, getN, binW, addW, mulW, int2, b1W, lenW, tupleW, listW, intW, isiW, ixW, cmpW, wBool, wInt, isNone, asgE, asgT, asgTs, Tg.is, TgL.is, wipeE, fresh, isBox, datas, W.data?, opt_some, opt_none, M.bind_ret, M.bind_stuck, M.nox_ret, itOf, itEnum, itZip, itRev, ownAt, ownL, W.i, W.b, List.map_cons, List.map_nil, List.set, List.getElem?_cons_zero, List.getElem?_cons_succ, List.length_cons, List.length_nil, List.replicate, List.append_nil, List.nil_append, List.cons_append, ite_true, ite_false, Bool.false_eq_true, reduceCtorEq, if_true, if_false, seqK_nx, seqK_rt, seqK_bk, seqK_ct, finK_rt, finK_nx, csD, h])]
  simp [v_v, v_non, v_bl, v_int, v_str, v_gl, v_fn, v_tup, v_lst, v_dnew, v_bin, v_neg, v_cmp, v_chain, v_isN, v_notN, v_bop, v_b1, v_b2, v_not, v_ite, v_ix, v_sl, v_call, v_callk, v_callv, v_bi, v_isi, v_comp, itB, escB, l_nil, l_cons, o_nil, o_cons, c_nil', c_cons', i_of', i_rng1', i_rng2', i_enum', i_zip', i_rev', s_nil', s_cons', t_asg, t_par, t_ret, t_retN, t_ite, t_for, t_ex, t_put, t_app, t_ext, t_brk, t_cnt, cmpK, iteK, notK, bopK, tupK, lstK, iteS, asgK, parK, escE, escL, escI, dem, dem1, getN, binW, addW, mulW, int2, b1W, lenW, tupleW, listW, intW, isiW, ixW, cmpW, wBool, wInt, isNone, asgE, asgT, asgTs, Tg.is, TgL.is, wipeE, fresh, isBox, datas, W.data?, opt_some, opt_none, M.bind_ret, M.bind_stuck, M.nox_ret, itOf, itEnum, itZip, itRev, ownAt, ownL, W.i, W.b, List.map_cons, List.map_nil, List.set, List.getElem?_cons_zero, List.getElem?_cons_succ, List.length_cons, List.length_nil, List.replicate, List.append_nil, List.nil_append, List.cons_append, ite_true, ite_false, Bool.false_eq_true, reduceCtorEq, if_true, if_false, seqK_nx, seqK_rt, seqK_bk, seqK_ct, finK_rt, finK_nx, causesL]
theorem sp_linked_so : SpLinked (evD fs gs fu 4 3 PB_linked_so) := fun n ar cs a b hl => by
  rw [d_run 4 3 _ _ rfl]
  simp [PB_linked_so, v_v, v_non, v_bl, v_int, v_str, v_gl, v_fn, v_tup, v_lst, v_dnew, v_bin, v_neg, v_cmp, v_chain, v_isN, v_notN, v_bop, v_b1, v_b2, v_not, v_ite, v_ix, v_sl, v_call, v_callk, v_callv, v_bi, v_isi, v_comp, itB, escB, l_nil, l_cons, o_nil, o_cons, c_nil', c_cons', i_of', i_rng1', i_rng2', i_enum', i_zip', i_rev', s_nil', s_cons', t_asg, t_par, t_ret, t_retN, t_ite, t_for, t_ex, t_put, t_app, t_ext, t_brk, t_cnt, cmpK, iteK, notK, bopK, tupK, lstK, iteS, asgK, parK, escE, escL, escI, dem, dem1, getN, binW, addW, mulW, int2, b1W, lenW, tupleW, listW, intW, isiW, ixW, cmpW, wBool, wInt, isNone, asgE, asgT, asgTs, Tg.is, TgL.is, wipeE, fresh, isBox, datas, W.data?, opt_some, opt_none, M.bind_ret, M.bind_stuck, M.nox_ret, itOf, itEnum, itZip, itRev, ownAt, ownL, W.i, W.b, List.map_cons, List.map_nil, List.set, List.getElem?_cons_zero, List.getElem?_cons_succ, List.length_cons, List.length_nil, List.replicate, List.append_nil, List.nil_append, List.cons_append, ite_true, ite_false, Bool.false_eq_true, reduceCtorEq, if_true, if_false, seqK_nx, seqK_rt, seqK_bk, seqK_ct, finK_rt, finK_nx, drW, dr2, tI]
  rw [compR_fm (W.d ∘ csD) (fun c => decide (a ∈ c) && decide (b ∈ c)) (fun _ => .int 1) hl (fun c hc => by by_cases h : a ∈ c <;> by_cases h2 : b ∈ c <;> simp [stepC, v_v, v_non, v_bl, v_int, v_str, v_gl, v_fn, v_tup, v_lst, v_dnew, v_bin, v_neg, v_cmp, v_chain, v_isN, v_notN, v_bop, v_b1, v_b2, v_not, v_ite, v_ix, v_sl, v_call, v_callk, v_callv, v_bi, v_isi, v_comp, itB, escB, l_nil, l_cons, o_nil, o_cons, c_nil', c_cons', i_of', i_rng1', i_rng2', i_enum', i_zip', i_rev', s_nil', s_cons', t_asg, t_par, t_ret, t_retN, t_ite, t_for, t_ex, t_put, t_app, t_ext, t_brk, t_cnt, cmpK, iteK, notK, bopK, tupK, lstK, iteS, asgK, parK, escE, escL, escI, dem, dem1, getN, binW, addW, mulW, int2, b1W, lenW, tupleW, listW, intW, isiW, ixW, cmpW, wBool, wInt, isNone, asgE, asgT, asgTs, Tg.is, TgL.is, wipeE, fresh, isBox, datas, W.data?, opt_some, opt_none, M.bind_ret, M.bind_stuck, M.nox_ret, itOf, itEnum, itZip, itRev, ownAt, ownL, W.i, W.b, List.map_cons, List.map_nil, List.set, List.getElem?_cons_zero, List.getElem?_cons_succ, List.length_cons, List.length_nil, List.replicate, List.append_nil, List.nil_append, List.cons_append, ite_true, ite_false, Bool.false_eq_true, reduceCtorEq, if_true, if_false, seqK_nx, seqK_rt, seqK_bk, seqK_ct, finK_rt, finK_nx, csD, h, h2])]
  simp [v_v, v_non, v_bl, v_int, v_str, v_gl, v_fn, v_tup, v_lst, v_dnew, v_bin, v_neg, v_cmp, v_chain, v_isN, v_notN, v_bop, v_b1, v_b2, v_not, v_ite, v_ix, v_sl, v_call, v_callk, v_callv, v_bi, v_isi, v_comp, itB, escB, l_nil, l_cons, o_nil, o_cons, c_nil', c_cons', i_of', i_rng1', i_rng2', i_enum', i_zip', i_rev', s_nil', s_cons', t_asg, t_par, t_ret, t_retN, t_ite, t_for, t_ex, t_put, t_app, t_ext, t_brk, t_cnt, cmpK, iteK, notK, bopK, tupK, lstK, iteS, asgK, parK, escE, escL, escI, dem, dem1, getN, binW, addW, mulW, int2, b1W, lenW, tupleW, listW, intW, isiW, ixW, cmpW, wBool, wInt, isNone, asgE, asgT, asgTs, Tg.is, TgL.is, wipeE, fresh, isBox, datas, W.data?, opt_some, opt_none, M.bind_ret, M.bind_stuck, M.nox_ret, itOf, itEnum, itZip, itRev, ownAt, ownL, W.i, W.b, List.map_cons, List.map_nil, List.set, List.getElem?_cons_zero, List.getElem?_cons_succ, List.length_cons, List.length_nil, List.replicate, List.append_nil, List.nil_append, List.cons_append, ite_true, ite_false, Bool.false_eq_true, reduceCtorEq, if_true, if_false, seqK_nx, seqK_rt, seqK_bk, seqK_ct, finK_rt, finK_nx, intB, len_pos, linkB]
  rw [Bool.eq_iff_iff]
  simp
theorem sp_leading_so {i_children_so : Nat} (h : SpChildren (applyF fs i_children_so)) : SpLeadSo (evD fs gs fu 6 3 (PB_leading_so i_children_so)) := fun n ar cs lot goal hn hl ha =>
  leading_so_ok hn hl ha fun x => by rw [← outF_outs]; exact h _ _ _ _ _ ha
end
end DS

set_option Elab.async false
set_option linter.all false
set_option autoImplicit false
set_option maxRecDepth 100000
set_option maxHeartbeats 4000000
/-! DP5: rooms. -/
namespace DS
open PySem PySem.Spec PySem.SeqAt PyProof.Rows L2
/-- a row of linked things of a lot goes from x to y -/
inductive Conn (cs : List (List Int)) (lot : List Int) (x : Int) : Int → Prop
  | refl : Conn cs lot x x
  | step {y z : Int} : Conn cs lot x y → z ∈ lot → linkB cs y z = true → Conn cs lot x z
open Classical in
noncomputable def roomL (cs : List (List Int)) (lot : List Int) (x : Int) : List Int := lot.filter fun y => decide (Conn cs lot x y)
theorem mem_roomL {cs : List (List Int)} {lot : List Int} {x y : Int} : y ∈ roomL cs lot x ↔ y ∈ lot ∧ Conn cs lot x y := by
  unfold roomL
  rw [List.mem_filter]
  simp
theorem Conn.mem {cs : List (List Int)} {lot : List Int} {x y : Int} (h : Conn cs lot x y) (hx : x ∈ lot) : y ∈ lot := by
  cases h with
  | refl => exact hx
  | step _ h2 _ => exact h2
theorem Conn.trans {cs : List (List Int)} {lot : List Int} {x y z : Int} (h : Conn cs lot x y) (k : Conn cs lot y z) : Conn cs lot x z := by
  induction k with
  | refl => exact h
  | step _ h2 h3 ih => exact .step ih h2 h3
theorem linkB_symm {cs : List (List Int)} {a b : Int} (h : linkB cs a b = true) : linkB cs b a = true := by
  unfold linkB at h ⊢
  rw [List.any_eq_true] at h ⊢
  obtain ⟨c, hc, h⟩ := h
  exact ⟨c, hc, by rw [Bool.and_comm]; exact h⟩
theorem Conn.symm {cs : List (List Int)} {lot : List Int} {x y : Int} (h : Conn cs lot x y) (hx : x ∈ lot) : Conn cs lot y x := by
  induction h with
  | refl => exact .refl
  | step h1 h2 h3 ih => exact Conn.trans (.step .refl (h1.mem hx) (linkB_symm h3)) ih
theorem Conn.mono {cs cs' : List (List Int)} {lot lot' : List Int} {x y : Int} (h : Conn cs lot x y) (hl : ∀ z ∈ lot, z ∈ lot') (hc : ∀ a b, linkB cs a b = true → linkB cs' a b = true) : Conn cs' lot' x y := by
  induction h with
  | refl => exact .refl
  | step _ h2 h3 ih => exact .step ih (hl _ h2) (hc _ _ h3)
theorem roomL_asc {cs : List (List Int)} {lot : List Int} {x : Int} (h : lot.Pairwise (· < ·)) : (roomL cs lot x).Pairwise (· < ·) := h.sublist List.filter_sublist
theorem roomL_len (cs : List (List Int)) (lot : List Int) (x : Int) : (roomL cs lot x).length ≤ lot.length := List.length_filter_le _ _
theorem asc_nodup' {xs : List Int} (h : xs.Pairwise (· < ·)) : xs.Nodup := h.imp fun z => by omega
theorem nodup_sub_len {l m : List Int} (h : l.Nodup) (hs : ∀ x ∈ l, x ∈ m) : l.length ≤ m.length := by
  induction l generalizing m with
  | nil => simp
  | cons x l ih =>
    obtain ⟨h1, h2⟩ := List.nodup_cons.mp h
    have hx := hs x List.mem_cons_self
    have := ih h2 (m := m.erase x) fun y hy => (List.mem_erase_of_ne (fun e => h1 (by rw [← e]; exact hy))).mpr (hs y (List.mem_cons_of_mem _ hy))
    rw [List.length_erase_of_mem hx] at this
    have := List.length_pos_of_mem hx
    rw [List.length_cons]
    omega
/-! ### room_so -/
structure RmS where
  found : List Int
  left : List Int
  here : C
  more : C
def rmEnv (d l x : W) (s : RmS) : Env := [.sh d, .sh l, .sh x, .ow (.d (.list (s.found.map PyData.int))), .ow (.d (.list (s.left.map PyData.int))), s.here, s.more, .no]
def rmMore (cs : List (List Int)) (lot : List Int) (s : RmS) : List Int := lot.filter fun z => !decide (z ∈ s.found) && linkB cs (s.left.getLast?.getD 0) z
def rmNext (cs : List (List Int)) (lot : List Int) (s : RmS) : RmS :=
  ⟨s.found ++ rmMore cs lot s, s.left.dropLast ++ rmMore cs lot s, .sh (.i (s.left.getLast?.getD 0)), .sh (.d (.list ((rmMore cs lot s).map PyData.int)))⟩
structure RmI (cs : List (List Int)) (lot : List Int) (x : Int) (s : RmS) : Prop where
  nd : s.found.Nodup
  ln : s.left.Nodup
  sub : ∀ y ∈ s.left, y ∈ s.found
  conn : ∀ y ∈ s.found, Conn cs lot x y ∧ y ∈ lot
  start : x ∈ s.found
  done : ∀ y ∈ s.found, y ∉ s.left → ∀ z ∈ lot, linkB cs y z = true → z ∈ s.found
theorem drop_last_mem {l : List Int} {y z : Int} (h : l.getLast? = some z) (hy : y ∈ l) : y = z ∨ y ∈ l.dropLast := by
  have hne : l ≠ [] := fun e => by rw [e] at hy; simp at hy
  have e := List.dropLast_concat_getLast hne
  rw [List.getLast?_eq_some_getLast hne] at h
  rw [Option.some.inj h] at e
  rw [← e] at hy
  rcases List.mem_append.mp hy with h1 | h1
  · exact .inr h1
  · exact .inl (List.mem_singleton.mp h1)
theorem rm_next {cs : List (List Int)} {lot : List Int} {x : Int} {s : RmS} (hl : lot.Nodup) (I : RmI cs lot x s) (hne : s.left ≠ []) : RmI cs lot x (rmNext cs lot s) ∧ (rmNext cs lot s).found.length = s.found.length + (rmMore cs lot s).length ∧ (rmNext cs lot s).left.length + 1 = s.left.length + (rmMore cs lot s).length := by
  obtain ⟨z, hz⟩ : ∃ z, s.left.getLast? = some z := ⟨_, List.getLast?_eq_some_getLast hne⟩
  have hzl : z ∈ s.left := List.mem_of_getLast? hz
  have hzf := I.sub z hzl
  have hm : ∀ y, y ∈ rmMore cs lot s ↔ y ∈ lot ∧ y ∉ s.found ∧ linkB cs z y = true := fun y => by
    unfold rmMore
    rw [List.mem_filter, hz]
    simp
  refine ⟨⟨?_, ?_, ?_, ?_, ?_, ?_⟩, by simp [rmNext], ?_⟩
  · show (s.found ++ rmMore cs lot s).Nodup
    rw [List.nodup_append]
    exact ⟨I.nd, hl.sublist List.filter_sublist, fun a ha b hb e => by subst e; exact ((hm a).mp hb).2.1 ha⟩
  · show (s.left.dropLast ++ rmMore cs lot s).Nodup
    rw [List.nodup_append]
    exact ⟨I.ln.sublist (List.dropLast_sublist _), hl.sublist List.filter_sublist, fun a ha b hb e => by subst e; exact ((hm a).mp hb).2.1 (I.sub a (List.dropLast_subset _ ha))⟩
  · intro y hy
    rcases List.mem_append.mp hy with h | h
    · exact List.mem_append_left _ (I.sub y (List.dropLast_subset _ h))
    · exact List.mem_append_right _ h
  · intro y hy
    rcases List.mem_append.mp hy with h | h
    · exact I.conn y h
    · obtain ⟨h1, _, h3⟩ := (hm y).mp h
      exact ⟨.step (I.conn z hzf).1 h1 h3, h1⟩
  · exact List.mem_append_left _ I.start
  · intro y hy hn w hw hlk
    rcases List.mem_append.mp hy with h | h
    · by_cases hyl : y ∈ s.left
      · rcases drop_last_mem hz hyl with rfl | h2
        · by_cases hwf : w ∈ s.found
          · exact List.mem_append_left _ hwf
          · exact List.mem_append_right _ ((hm w).mpr ⟨hw, hwf, hlk⟩)
        · exact absurd (List.mem_append_left _ h2) hn
      · exact List.mem_append_left _ (I.done y h hyl w hw hlk)
    · exact absurd (List.mem_append_right _ h) hn
  · show (s.left.dropLast ++ rmMore cs lot s).length + 1 = _
    rw [List.length_append, List.length_dropLast]
    have := List.length_pos_of_mem hzl
    omega
theorem rm_end {cs : List (List Int)} {lot : List Int} {x : Int} {s : RmS} (I : RmI cs lot x s) (he : s.left = []) : ∀ y, y ∈ s.found ↔ y ∈ lot ∧ Conn cs lot x y := by
  intro y
  constructor
  · intro h; exact ⟨(I.conn y h).2, (I.conn y h).1⟩
  · rintro ⟨hy, h⟩
    clear hy
    induction h with
    | refl => exact I.start
    | step _ h2 h3 ih => exact I.done _ ih (by rw [he]; simp) _ h2 h3
def SpRoomSo (F : Fn1) : Prop := ∀ n ar cs lot (x : Int), cs.length ≤ cap → lot.Pairwise (· < ·) → lot.length ≤ 100 → x ∈ lot → F [drW n ar cs, tI lot, .i x] = .ret (tI (roomL cs lot x))
theorem M.bind_eq {α β : Type} {m : M α} {a : α} {f : α → M β} (h : m = .ret a) : m.bind f = f a := by rw [h]; rfl
theorem intsD_ints : ∀ xs : List Int, intsD (xs.map PyData.int) = some xs
  | [] => rfl
  | x :: xs => by rw [List.map_cons]; unfold intsD; rw [intsD_ints xs]
theorem sortI_strict {l : List Int} (h : l.Nodup) : (sortI l).Pairwise (· < ·) := by
  have nd : (sortI l).Nodup := (sortI_perm l).nodup_iff.mpr h
  exact ((sortI_sorted l).and nd).imp fun ⟨a, b⟩ => by omega
section
variable {fs : Fns} {gs : List W}
theorem sp_room_so {i_linked_so : Nat} (h : SpLinked (applyF fs i_linked_so)) : SpRoomSo (evD fs gs 200 8 3 (PB_room_so i_linked_so)) := fun n ar cs lot x hcs hlot h100 hx => by
  have hcap : cap = 100000 := rfl
  have hnd := asc_nodup' hlot
  obtain ⟨s', I, he, hrun⟩ := whlR_ok (fs := fs) (gs := gs) (fu := 200) (c := .cmp .gt (.b1 .len (.v 4)) (.int 0))
    (body := (.cons (.popTo 5 4) (.cons (.asg (.n 6) (.comp (.n 7) (.of (.v 1)) (.cons (.bop true (.cons (.cmp .notin (.v 7) (.v 3)) (.cons (.call i_linked_so (.cons (.v 0) (.cons (.v 5) (.cons (.v 7) .nil)))) .nil))) .nil) (.v 7))) (.cons (.ext 3 (.v 6)) (.cons (.ext 4 (.v 6)) .nil)))))
    (rmEnv (drW n ar cs) (tI lot) (.i x)) (RmI cs lot x) (fun s => (lot.length - s.found.length) + s.left.length) (fun s => !s.left.isEmpty) (rmNext cs lot) (s0 := ⟨[x], [x], .no, .no⟩)
    ⟨by simp, by simp, fun y hy => hy, fun y hy => by rw [List.mem_singleton.mp hy]; exact ⟨.refl, hx⟩, by simp, fun y hy hn => absurd hy hn⟩ (by simp <;> omega) (fun s I => by
      cases hL : s.left with
      | nil => simp [v_v, v_non, v_bl, v_int, v_str, v_gl, v_fn, v_tup, v_lst, v_dnew, v_bin, v_neg, v_cmp, v_chain, v_isN, v_notN, v_bop, v_b1, v_b2, v_not, v_ite, v_ix, v_sl, v_call, v_callk, v_callv, v_bi, v_isi, v_comp, itB, escB, l_nil, l_cons, o_nil, o_cons, c_nil', c_cons', i_of', i_rng1', i_rng2', i_enum', i_zip', i_rev', s_nil', s_cons', t_asg, t_par, t_ret, t_retN, t_ite, t_for, t_ex, t_put, t_app, t_ext, t_brk, t_cnt, cmpK, iteK, notK, bopK, tupK, lstK, iteS, asgK, parK, escE, escL, escI, dem, dem1, getN, binW, addW, mulW, int2, b1W, lenW, tupleW, listW, intW, isiW, ixW, cmpW, wBool, wInt, isNone, asgE, asgT, asgTs, Tg.is, TgL.is, wipeE, fresh, isBox, datas, W.data?, opt_some, opt_none, M.bind_ret, M.bind_stuck, M.nox_ret, itOf, itEnum, itZip, itRev, ownAt, ownL, W.i, W.b, List.map_cons, List.map_nil, List.set, List.getElem?_cons_zero, List.getElem?_cons_succ, List.length_cons, List.length_nil, List.replicate, List.append_nil, List.nil_append, List.cons_append, ite_true, ite_false, Bool.false_eq_true, reduceCtorEq, if_true, if_false, seqK_nx, seqK_rt, seqK_bk, seqK_ct, finK_rt, finK_nx, rmEnv, hL, intB]
      | cons a l => simp [v_v, v_non, v_bl, v_int, v_str, v_gl, v_fn, v_tup, v_lst, v_dnew, v_bin, v_neg, v_cmp, v_chain, v_isN, v_notN, v_bop, v_b1, v_b2, v_not, v_ite, v_ix, v_sl, v_call, v_callk, v_callv, v_bi, v_isi, v_comp, itB, escB, l_nil, l_cons, o_nil, o_cons, c_nil', c_cons', i_of', i_rng1', i_rng2', i_enum', i_zip', i_rev', s_nil', s_cons', t_asg, t_par, t_ret, t_retN, t_ite, t_for, t_ex, t_put, t_app, t_ext, t_brk, t_cnt, cmpK, iteK, notK, bopK, tupK, lstK, iteS, asgK, parK, escE, escL, escI, dem, dem1, getN, binW, addW, mulW, int2, b1W, lenW, tupleW, listW, intW, isiW, ixW, cmpW, wBool, wInt, isNone, asgE, asgT, asgTs, Tg.is, TgL.is, wipeE, fresh, isBox, datas, W.data?, opt_some, opt_none, M.bind_ret, M.bind_stuck, M.nox_ret, itOf, itEnum, itZip, itRev, ownAt, ownL, W.i, W.b, List.map_cons, List.map_nil, List.set, List.getElem?_cons_zero, List.getElem?_cons_succ, List.length_cons, List.length_nil, List.replicate, List.append_nil, List.nil_append, List.cons_append, ite_true, ite_false, Bool.false_eq_true, reduceCtorEq, if_true, if_false, seqK_nx, seqK_rt, seqK_bk, seqK_ct, finK_rt, finK_nx, rmEnv, hL, intB] <;> omega) (fun s I hb => by
      have hne : s.left ≠ [] := fun z => by rw [z] at hb; simp at hb
      obtain ⟨z, hz⟩ : ∃ z, s.left.getLast? = some z := ⟨_, List.getLast?_eq_some_getLast hne⟩
      obtain ⟨J, l1, l2⟩ := rm_next hnd I hne
      have hfl : (rmNext cs lot s).found.length ≤ lot.length := nodup_sub_len J.nd fun y hy => (J.conn y hy).2
      have hfl0 : s.found.length ≤ lot.length := nodup_sub_len I.nd fun y hy => (I.conn y hy).2
      have hll : s.left.length ≤ lot.length := Nat.le_trans (nodup_sub_len I.ln I.sub) hfl0
      refine ⟨?_, J, by omega⟩
      have e1 : ∀ y : Int, applyF fs i_linked_so [W.d (.tuple [.int n, .tuple (ar.map prD), .tuple (cs.map csD)]), W.d (.int z), W.d (.int y)] = _ := fun y => h n ar cs z y hcs
      have hlast : (s.left.map PyData.int).getLast? = some (.int z) := by rw [List.getLast?_map, hz]; rfl
      have hml : (rmMore cs lot s).length ≤ lot.length := List.length_filter_le _ _
      have hdl : s.left.dropLast.length ≤ lot.length := by rw [List.length_dropLast]; omega
      have g1 : s.found.length + (rmMore cs lot s).length ≤ cap := by omega
      have g2 : s.left.length - 1 + (rmMore cs lot s).length ≤ cap := by omega
      have hm : rmMore cs lot s = lot.filter fun y => !decide (y ∈ s.found) && linkB cs z y := by unfold rmMore; rw [hz]; rfl
      simp [v_v, v_non, v_bl, v_int, v_str, v_gl, v_fn, v_tup, v_lst, v_dnew, v_bin, v_neg, v_cmp, v_chain, v_isN, v_notN, v_bop, v_b1, v_b2, v_not, v_ite, v_ix, v_sl, v_call, v_callk, v_callv, v_bi, v_isi, v_comp, itB, escB, l_nil, l_cons, o_nil, o_cons, c_nil', c_cons', i_of', i_rng1', i_rng2', i_enum', i_zip', i_rev', s_nil', s_cons', t_asg, t_par, t_ret, t_retN, t_ite, t_for, t_ex, t_put, t_app, t_ext, t_brk, t_cnt, cmpK, iteK, notK, bopK, tupK, lstK, iteS, asgK, parK, escE, escL, escI, dem, dem1, getN, binW, addW, mulW, int2, b1W, lenW, tupleW, listW, intW, isiW, ixW, cmpW, wBool, wInt, isNone, asgE, asgT, asgTs, Tg.is, TgL.is, wipeE, fresh, isBox, datas, W.data?, opt_some, opt_none, M.bind_ret, M.bind_stuck, M.nox_ret, itOf, itEnum, itZip, itRev, ownAt, ownL, W.i, W.b, List.map_cons, List.map_nil, List.set, List.getElem?_cons_zero, List.getElem?_cons_succ, List.length_cons, List.length_nil, List.replicate, List.append_nil, List.nil_append, List.cons_append, ite_true, ite_false, Bool.false_eq_true, reduceCtorEq, if_true, if_false, seqK_nx, seqK_rt, seqK_bk, seqK_ct, finK_rt, finK_nx, t_pop, rmEnv, rmNext, ownL, hlast, hz, M.bind_assoc]
      refine (M.bind_eq (compR_fm (W.d ∘ PyData.int) (fun y => !decide (y ∈ s.found) && linkB cs z y) PyData.int (by omega) fun y hy => by
          by_cases q : y ∈ s.found <;> by_cases q2 : linkB cs z y = true <;> simp [stepC, v_v, v_non, v_bl, v_int, v_str, v_gl, v_fn, v_tup, v_lst, v_dnew, v_bin, v_neg, v_cmp, v_chain, v_isN, v_notN, v_bop, v_b1, v_b2, v_not, v_ite, v_ix, v_sl, v_call, v_callk, v_callv, v_bi, v_isi, v_comp, itB, escB, l_nil, l_cons, o_nil, o_cons, c_nil', c_cons', i_of', i_rng1', i_rng2', i_enum', i_zip', i_rev', s_nil', s_cons', t_asg, t_par, t_ret, t_retN, t_ite, t_for, t_ex, t_put, t_app, t_ext, t_brk, t_cnt, cmpK, iteK, notK, bopK, tupK, lstK, iteS, asgK, parK, escE, escL, escI, dem, dem1, getN, binW, addW, mulW, int2, b1W, lenW, tupleW, listW, intW, isiW, ixW, cmpW, wBool, wInt, isNone, asgE, asgT, asgTs, Tg.is, TgL.is, wipeE, fresh, isBox, datas, W.data?, opt_some, opt_none, M.bind_ret, M.bind_stuck, M.nox_ret, itOf, itEnum, itZip, itRev, ownAt, ownL, W.i, W.b, List.map_cons, List.map_nil, List.set, List.getElem?_cons_zero, List.getElem?_cons_succ, List.length_cons, List.length_nil, List.replicate, List.append_nil, List.nil_append, List.cons_append, ite_true, ite_false, Bool.false_eq_true, reduceCtorEq, if_true, if_false, seqK_nx, seqK_rt, seqK_bk, seqK_ct, finK_rt, finK_nx, q, q2, e1])).trans ?_
      rw [← hm]
      simp [v_v, v_non, v_bl, v_int, v_str, v_gl, v_fn, v_tup, v_lst, v_dnew, v_bin, v_neg, v_cmp, v_chain, v_isN, v_notN, v_bop, v_b1, v_b2, v_not, v_ite, v_ix, v_sl, v_call, v_callk, v_callv, v_bi, v_isi, v_comp, itB, escB, l_nil, l_cons, o_nil, o_cons, c_nil', c_cons', i_of', i_rng1', i_rng2', i_enum', i_zip', i_rev', s_nil', s_cons', t_asg, t_par, t_ret, t_retN, t_ite, t_for, t_ex, t_put, t_app, t_ext, t_brk, t_cnt, cmpK, iteK, notK, bopK, tupK, lstK, iteS, asgK, parK, escE, escL, escI, dem, dem1, getN, binW, addW, mulW, int2, b1W, lenW, tupleW, listW, intW, isiW, ixW, cmpW, wBool, wInt, isNone, asgE, asgT, asgTs, Tg.is, TgL.is, wipeE, fresh, isBox, datas, W.data?, opt_some, opt_none, M.bind_ret, M.bind_stuck, M.nox_ret, itOf, itEnum, itZip, itRev, ownAt, ownL, W.i, W.b, List.map_cons, List.map_nil, List.set, List.getElem?_cons_zero, List.getElem?_cons_succ, List.length_cons, List.length_nil, List.replicate, List.append_nil, List.nil_append, List.cons_append, ite_true, ite_false, Bool.false_eq_true, reduceCtorEq, if_true, if_false, seqK_nx, seqK_rt, seqK_bk, seqK_ct, finK_rt, finK_nx, extD, ownL, g1, g2])
  have e0 : rmEnv (drW n ar cs) (tI lot) (.i x) ⟨[x], [x], .no, .no⟩ = [.sh (drW n ar cs), .sh (tI lot), .sh (.i x), .ow (.d (.list [.int x])), .ow (.d (.list [.int x])), .no, .no, .no] := rfl
  rw [d_run 8 3 _ _ rfl]
  simp [PB_room_so, v_v, v_non, v_bl, v_int, v_str, v_gl, v_fn, v_tup, v_lst, v_dnew, v_bin, v_neg, v_cmp, v_chain, v_isN, v_notN, v_bop, v_b1, v_b2, v_not, v_ite, v_ix, v_sl, v_call, v_callk, v_callv, v_bi, v_isi, v_comp, itB, escB, l_nil, l_cons, o_nil, o_cons, c_nil', c_cons', i_of', i_rng1', i_rng2', i_enum', i_zip', i_rev', s_nil', s_cons', t_asg, t_par, t_ret, t_retN, t_ite, t_for, t_ex, t_put, t_app, t_ext, t_brk, t_cnt, cmpK, iteK, notK, bopK, tupK, lstK, iteS, asgK, parK, escE, escL, escI, dem, dem1, getN, binW, addW, mulW, int2, b1W, lenW, tupleW, listW, intW, isiW, ixW, cmpW, wBool, wInt, isNone, asgE, asgT, asgTs, Tg.is, TgL.is, wipeE, fresh, isBox, datas, W.data?, opt_some, opt_none, M.bind_ret, M.bind_stuck, M.nox_ret, itOf, itEnum, itZip, itRev, ownAt, ownL, W.i, W.b, List.map_cons, List.map_nil, List.set, List.getElem?_cons_zero, List.getElem?_cons_succ, List.length_cons, List.length_nil, List.replicate, List.append_nil, List.nil_append, List.cons_append, ite_true, ite_false, Bool.false_eq_true, reduceCtorEq, if_true, if_false, seqK_nx, seqK_rt, seqK_bk, seqK_ct, finK_rt, finK_nx, parE, t_whl, t_pop, M.bind_assoc, seqW]
  rw [e0] at hrun
  simp only [tI, drW, W.i] at hrun ⊢
  rw [hrun]
  have hle : s'.left = [] := by simpa using he
  have hf := rm_end I hle
  have hfl : s'.found.length ≤ lot.length := nodup_sub_len I.nd fun y hy => (I.conn y hy).2
  have hi : intsD (s'.found.map PyData.int) = some s'.found := intsD_ints _
  simp [v_v, v_non, v_bl, v_int, v_str, v_gl, v_fn, v_tup, v_lst, v_dnew, v_bin, v_neg, v_cmp, v_chain, v_isN, v_notN, v_bop, v_b1, v_b2, v_not, v_ite, v_ix, v_sl, v_call, v_callk, v_callv, v_bi, v_isi, v_comp, itB, escB, l_nil, l_cons, o_nil, o_cons, c_nil', c_cons', i_of', i_rng1', i_rng2', i_enum', i_zip', i_rev', s_nil', s_cons', t_asg, t_par, t_ret, t_retN, t_ite, t_for, t_ex, t_put, t_app, t_ext, t_brk, t_cnt, cmpK, iteK, notK, bopK, tupK, lstK, iteS, asgK, parK, escE, escL, escI, dem, dem1, getN, binW, addW, mulW, int2, b1W, lenW, tupleW, listW, intW, isiW, ixW, cmpW, wBool, wInt, isNone, asgE, asgT, asgTs, Tg.is, TgL.is, wipeE, fresh, isBox, datas, W.data?, opt_some, opt_none, M.bind_ret, M.bind_stuck, M.nox_ret, itOf, itEnum, itZip, itRev, ownAt, ownL, W.i, W.b, List.map_cons, List.map_nil, List.set, List.getElem?_cons_zero, List.getElem?_cons_succ, List.length_cons, List.length_nil, List.replicate, List.append_nil, List.nil_append, List.cons_append, ite_true, ite_false, Bool.false_eq_true, reduceCtorEq, if_true, if_false, seqK_nx, seqK_rt, seqK_bk, seqK_ct, finK_rt, finK_nx, rmEnv, sortedW, sortedD, hi]
  refine congrArg (List.map PyData.int) (asc_uniqI (sortI_strict I.nd) (roomL_asc hlot) fun y => ?_)
  rw [(sortI_perm s'.found).mem_iff, hf, mem_roomL]
end
/-! ### rooms_so -/
noncomputable def roomsF (cs : List (List Int)) : Nat → List Int → List (List Int)
  | 0, _ => []
  | _ + 1, [] => []
  | k + 1, x :: xs => roomL cs (x :: xs) x :: roomsF cs k ((x :: xs).filter fun y => decide (y ∉ roomL cs (x :: xs) x))
noncomputable def roomsL (cs : List (List Int)) (lot : List Int) : List (List Int) := roomsF cs lot.length lot
theorem rest_len {cs : List (List Int)} {x : Int} {xs : List Int} : ((x :: xs).filter fun y => decide (y ∉ roomL cs (x :: xs) x)).length ≤ xs.length := by
  have hx : x ∈ roomL cs (x :: xs) x := mem_roomL.mpr ⟨List.mem_cons_self, .refl⟩
  rw [List.filter_cons_of_neg (by simp [hx])]
  exact List.length_filter_le _ _
theorem roomsF_fuel {cs : List (List Int)} : ∀ (k : Nat) (l : List Int), l.length ≤ k → roomsF cs k l = roomsF cs l.length l
  | 0, [], _ => rfl
  | 0, _ :: _, h => by simp at h
  | _ + 1, [], _ => rfl
  | k + 1, x :: xs, h => by
    have hl := rest_len (cs := cs) (x := x) (xs := xs)
    rw [List.length_cons] at h
    show _ :: roomsF cs k _ = _ :: roomsF cs xs.length _
    rw [roomsF_fuel k _ (by omega), roomsF_fuel xs.length _ hl]
theorem roomsL_nil (cs : List (List Int)) : roomsL cs [] = [] := rfl
theorem roomsL_cons {cs : List (List Int)} {x : Int} {xs : List Int} : roomsL cs (x :: xs) = roomL cs (x :: xs) x :: roomsL cs ((x :: xs).filter fun y => decide (y ∉ roomL cs (x :: xs) x)) := by
  show _ :: roomsF cs xs.length _ = _ :: roomsF cs _ _
  rw [roomsF_fuel xs.length _ rest_len]
structure RsS where
  found : List (List Int)
  left : List Int
  room : C
def rsEnv (d l : W) (s : RsS) : Env := [.sh d, .sh l, .ow (.d (.list (s.found.map csD))), .sh (tI s.left), s.room]
noncomputable def rsNext (cs : List (List Int)) (s : RsS) : RsS := ⟨s.found ++ [roomL cs s.left (s.left.headD 0)], s.left.filter fun y => decide (y ∉ roomL cs s.left (s.left.headD 0)), .sh (tI (roomL cs s.left (s.left.headD 0)))⟩
def SpRoomsSo (F : Fn1) : Prop := ∀ n ar cs lot, cs.length ≤ cap → lot.Pairwise (· < ·) → lot.length ≤ 100 → F [drW n ar cs, tI lot] = .ret (.d (.tuple ((roomsL cs lot).map csD)))
def closedB (ar : List (Int × Int)) (lot sm : List Int) : Bool := sm.all fun x => (insF ar lot x).all fun y => decide (y ∈ sm)
def SpClosedSo (F : Fn1) : Prop := ∀ n ar cs lot sm, ar.length ≤ cap → sm.length ≤ cap → F [drW n ar cs, tI lot, tI sm] = .ret (.b (closedB ar lot sm))
def SpNeedLot (F : Fn1) : Prop := ∀ n ar cs xs, DrOk n ar cs → SetOk (n - 1) xs → F [drW n ar cs, tI xs] = .ret (tI xs)
def SpParentsOf (F : Fn1) : Prop := ∀ n ar cs lot (x : Int), DrOk n ar cs → SetOk (n - 1) lot → 0 ≤ x → x < n → F [drW n ar cs, tI lot, .i x] = .ret (tI (insF ar lot x))
def SpChildrenOf (F : Fn1) : Prop := ∀ n ar cs lot (x : Int), DrOk n ar cs → SetOk (n - 1) lot → 0 ≤ x → x < n → F [drW n ar cs, tI lot, .i x] = .ret (tI (outF ar lot x))
def SpCausesOf (F : Fn1) : Prop := ∀ n ar cs (x : Int), DrOk n ar cs → 0 ≤ x → x < n → F [drW n ar cs, .i x] = .ret (tI (causesL cs x))
def SpLinkedOf (F : Fn1) : Prop := ∀ n ar cs (x y : Int), DrOk n ar cs → 0 ≤ x → x < n → 0 ≤ y → y < n → x ≠ y → F [drW n ar cs, .i x, .i y] = .ret (.b (linkB cs x y))
def SpLeading (F : Fn1) : Prop := ∀ n ar cs lot goal, DrOk n ar cs → SetOk (n - 1) lot → SetOk (n - 1) goal → (∀ x ∈ goal, x ∈ lot) → F [drW n ar cs, tI lot, tI goal] = .ret (tI (leadL ar lot goal))
def SpRooms (F : Fn1) : Prop := ∀ n ar cs lot, DrOk n ar cs → SetOk (n - 1) lot → F [drW n ar cs, tI lot] = .ret (.d (.tuple ((roomsL cs lot).map csD)))
def SpClosedUp (F : Fn1) : Prop := ∀ n ar cs lot sm, DrOk n ar cs → SetOk (n - 1) lot → SetOk (n - 1) sm → (∀ x ∈ sm, x ∈ lot) → F [drW n ar cs, tI lot, tI sm] = .ret (.b (closedB ar lot sm))
def SpGoalOf (F : Fn1) : Prop := ∀ n ar cs sh ends, DrOk n ar cs → SetOk (n - 1) sh → SetOk (n - 1) ends → (∀ x ∈ ends, x ∉ sh) → F [drW n ar cs, tI sh, tI ends] = .ret (tI (leadL ar ((upto n).filter fun x => decide (x ∉ sh)) ends))
theorem upto_mem' {n x : Int} : x ∈ upto n ↔ 0 ≤ x ∧ x < n := by
  unfold upto
  rw [List.mem_map]
  constructor
  · rintro ⟨k, hk, rfl⟩
    have := List.mem_range.mp hk
    omega
  · rintro ⟨h0, h1⟩
    exact ⟨x.toNat, List.mem_range.mpr (by omega), by omega⟩
theorem upto_asc' (n : Int) : (upto n).Pairwise (· < ·) := by
  unfold upto
  rw [List.pairwise_map]
  exact List.pairwise_lt_range.imp fun h => by omega
theorem upto_len' (n : Int) : (upto n).length = n.toNat := by unfold upto; rw [List.length_map, List.length_range]
/-- ascending things below n are at most n -/
theorem set_len {n : Int} {xs : List Int} (h : SetOk (n - 1) xs) : xs.length ≤ n.toNat := by
  rw [← upto_len' n]
  exact nodup_sub_len (asc_nodup' h.asc) fun x hx => upto_mem'.mpr (by have := h.rng x hx; omega)
theorem set_filter {n : Int} (hn : n ≤ 10) (p : Int → Bool) : SetOk (n - 1) ((upto n).filter p) where
  rng := fun x hx => by have := upto_mem'.mp (List.mem_filter.mp hx).1; omega
  asc := (upto_asc' n).sublist List.filter_sublist
  few := by have := List.length_filter_le p (upto n); have := upto_len' n; have : cap = 100000 := rfl; omega
theorem set_sub {m : Int} {xs : List Int} (h : SetOk m xs) (p : Int → Bool) : SetOk m (xs.filter p) where
  rng := fun x hx => h.rng x (List.mem_filter.mp hx).1
  asc := h.asc.sublist List.filter_sublist
  few := Nat.le_trans (List.length_filter_le _ _) h.few
theorem set_nil {m : Int} : SetOk m [] := ⟨fun x h => by simp at h, .nil, Nat.zero_le _⟩
section
variable {fs : Fns} {gs : List W} {fu : Nat}
theorem sp_rooms_so {i_less_so i_room_so : Nat} (h1 : SpLess (applyF fs i_less_so)) (h2 : SpRoomSo (applyF fs i_room_so)) : SpRoomsSo (evD fs gs 200 5 2 (PB_rooms_so i_less_so i_room_so)) := fun n ar cs lot hcs hlot h100 => by
  have hcap : cap = 100000 := rfl
  obtain ⟨s', I, he, hrun⟩ := whlR_ok (fs := fs) (gs := gs) (fu := 200) (c := .cmp .gt (.b1 .len (.v 3)) (.int 0))
    (body := (.cons (.asg (.n 4) (.call i_room_so (.cons (.v 0) (.cons (.v 3) (.cons (.ix (.v 3) (.int 0)) .nil))))) (.cons (.app 2 (.v 4)) (.cons (.asg (.n 3) (.call i_less_so (.cons (.v 3) (.cons (.v 4) .nil)))) .nil))))
    (rsEnv (drW n ar cs) (tI lot)) (fun s => s.left.Pairwise (· < ·) ∧ s.found.length + s.left.length ≤ lot.length ∧ s.found ++ roomsL cs s.left = roomsL cs lot) (fun s => s.left.length) (fun s => !s.left.isEmpty) (rsNext cs) (s0 := ⟨[], lot, .no⟩)
    ⟨hlot, by simp, by simp⟩ (by show lot.length < 200; omega) (fun s I => by
      cases hL : s.left with
      | nil => simp [v_v, v_non, v_bl, v_int, v_str, v_gl, v_fn, v_tup, v_lst, v_dnew, v_bin, v_neg, v_cmp, v_chain, v_isN, v_notN, v_bop, v_b1, v_b2, v_not, v_ite, v_ix, v_sl, v_call, v_callk, v_callv, v_bi, v_isi, v_comp, itB, escB, l_nil, l_cons, o_nil, o_cons, c_nil', c_cons', i_of', i_rng1', i_rng2', i_enum', i_zip', i_rev', s_nil', s_cons', t_asg, t_par, t_ret, t_retN, t_ite, t_for, t_ex, t_put, t_app, t_ext, t_brk, t_cnt, cmpK, iteK, notK, bopK, tupK, lstK, iteS, asgK, parK, escE, escL, escI, dem, dem1, getN, binW, addW, mulW, int2, b1W, lenW, tupleW, listW, intW, isiW, ixW, cmpW, wBool, wInt, isNone, asgE, asgT, asgTs, Tg.is, TgL.is, wipeE, fresh, isBox, datas, W.data?, opt_some, opt_none, M.bind_ret, M.bind_stuck, M.nox_ret, itOf, itEnum, itZip, itRev, ownAt, ownL, W.i, W.b, List.map_cons, List.map_nil, List.set, List.getElem?_cons_zero, List.getElem?_cons_succ, List.length_cons, List.length_nil, List.replicate, List.append_nil, List.nil_append, List.cons_append, ite_true, ite_false, Bool.false_eq_true, reduceCtorEq, if_true, if_false, seqK_nx, seqK_rt, seqK_bk, seqK_ct, finK_rt, finK_nx, parE, t_whl, t_pop, M.bind_assoc, seqW, rsEnv, hL, intB]
      | cons a l => simp [v_v, v_non, v_bl, v_int, v_str, v_gl, v_fn, v_tup, v_lst, v_dnew, v_bin, v_neg, v_cmp, v_chain, v_isN, v_notN, v_bop, v_b1, v_b2, v_not, v_ite, v_ix, v_sl, v_call, v_callk, v_callv, v_bi, v_isi, v_comp, itB, escB, l_nil, l_cons, o_nil, o_cons, c_nil', c_cons', i_of', i_rng1', i_rng2', i_enum', i_zip', i_rev', s_nil', s_cons', t_asg, t_par, t_ret, t_retN, t_ite, t_for, t_ex, t_put, t_app, t_ext, t_brk, t_cnt, cmpK, iteK, notK, bopK, tupK, lstK, iteS, asgK, parK, escE, escL, escI, dem, dem1, getN, binW, addW, mulW, int2, b1W, lenW, tupleW, listW, intW, isiW, ixW, cmpW, wBool, wInt, isNone, asgE, asgT, asgTs, Tg.is, TgL.is, wipeE, fresh, isBox, datas, W.data?, opt_some, opt_none, M.bind_ret, M.bind_stuck, M.nox_ret, itOf, itEnum, itZip, itRev, ownAt, ownL, W.i, W.b, List.map_cons, List.map_nil, List.set, List.getElem?_cons_zero, List.getElem?_cons_succ, List.length_cons, List.length_nil, List.replicate, List.append_nil, List.nil_append, List.cons_append, ite_true, ite_false, Bool.false_eq_true, reduceCtorEq, if_true, if_false, seqK_nx, seqK_rt, seqK_bk, seqK_ct, finK_rt, finK_nx, parE, t_whl, t_pop, M.bind_assoc, seqW, rsEnv, hL, intB] <;> omega) (fun s ⟨I1, I2, I3⟩ hb => by
      obtain ⟨x, xs, hx⟩ : ∃ x xs, s.left = x :: xs := by
        cases hL : s.left with
        | nil => rw [hL] at hb; simp at hb
        | cons a l => exact ⟨a, l, rfl⟩
      have hl := rest_len (cs := cs) (x := x) (xs := xs)
      rw [hx] at I1 I2 I3
      rw [List.length_cons] at I2
      have e2 : applyF fs i_room_so [drW n ar cs, tI (x :: xs), .i x] = _ := h2 n ar cs (x :: xs) x hcs I1 (by rw [List.length_cons]; omega) List.mem_cons_self
      have e1 : applyF fs i_less_so [tI (x :: xs), tI (roomL cs (x :: xs) x)] = _ := h1 (x :: xs) (roomL cs (x :: xs) x) (by rw [List.length_cons]; omega)
      have hn : rsNext cs s = ⟨s.found ++ [roomL cs (x :: xs) x], (x :: xs).filter fun y => decide (y ∉ roomL cs (x :: xs) x), .sh (tI (roomL cs (x :: xs) x))⟩ := by unfold rsNext; rw [hx]; rfl
      rw [hn]
      refine ⟨?_, ⟨I1.sublist List.filter_sublist, ?_, ?_⟩, ?_⟩
      · unfold rsEnv
        rw [hx]
        simp only [tI, drW, W.i] at e1 e2 ⊢
        have a0 : atI (PyData.int x :: List.map PyData.int xs) 0 = some (.int x) := atI_nat (i := 0) rfl
        rw [List.map_cons] at e1 e2
        have g : s.found.length < cap := by omega
        simp [v_v, v_non, v_bl, v_int, v_str, v_gl, v_fn, v_tup, v_lst, v_dnew, v_bin, v_neg, v_cmp, v_chain, v_isN, v_notN, v_bop, v_b1, v_b2, v_not, v_ite, v_ix, v_sl, v_call, v_callk, v_callv, v_bi, v_isi, v_comp, itB, escB, l_nil, l_cons, o_nil, o_cons, c_nil', c_cons', i_of', i_rng1', i_rng2', i_enum', i_zip', i_rev', s_nil', s_cons', t_asg, t_par, t_ret, t_retN, t_ite, t_for, t_ex, t_put, t_app, t_ext, t_brk, t_cnt, cmpK, iteK, notK, bopK, tupK, lstK, iteS, asgK, parK, escE, escL, escI, dem, dem1, getN, binW, addW, mulW, int2, b1W, lenW, tupleW, listW, intW, isiW, ixW, cmpW, wBool, wInt, isNone, asgE, asgT, asgTs, Tg.is, TgL.is, wipeE, fresh, isBox, datas, W.data?, opt_some, opt_none, M.bind_ret, M.bind_stuck, M.nox_ret, itOf, itEnum, itZip, itRev, ownAt, ownL, W.i, W.b, List.map_cons, List.map_nil, List.set, List.getElem?_cons_zero, List.getElem?_cons_succ, List.length_cons, List.length_nil, List.replicate, List.append_nil, List.nil_append, List.cons_append, ite_true, ite_false, Bool.false_eq_true, reduceCtorEq, if_true, if_false, seqK_nx, seqK_rt, seqK_bk, seqK_ct, finK_rt, finK_nx, parE, t_whl, t_pop, M.bind_assoc, seqW, a0, e2, e1, appD, ownL, g, csD]
      · show (s.found ++ [_]).length + _ ≤ _
        rw [List.length_append]
        simp only [List.length_singleton]
        omega
      · rw [← I3, roomsL_cons, List.append_assoc]; rfl
      · rw [hx, List.length_cons]; exact Nat.lt_succ_of_le hl)
  rw [d_run 5 2 _ _ rfl]
  have e0 : rsEnv (drW n ar cs) (tI lot) ⟨[], lot, .no⟩ = [.sh (drW n ar cs), .sh (tI lot), .ow (.d (.list [])), .sh (tI lot), .no] := rfl
  rw [e0] at hrun
  simp only [tI, drW, W.i] at hrun ⊢
  simp [PB_rooms_so, v_v, v_non, v_bl, v_int, v_str, v_gl, v_fn, v_tup, v_lst, v_dnew, v_bin, v_neg, v_cmp, v_chain, v_isN, v_notN, v_bop, v_b1, v_b2, v_not, v_ite, v_ix, v_sl, v_call, v_callk, v_callv, v_bi, v_isi, v_comp, itB, escB, l_nil, l_cons, o_nil, o_cons, c_nil', c_cons', i_of', i_rng1', i_rng2', i_enum', i_zip', i_rev', s_nil', s_cons', t_asg, t_par, t_ret, t_retN, t_ite, t_for, t_ex, t_put, t_app, t_ext, t_brk, t_cnt, cmpK, iteK, notK, bopK, tupK, lstK, iteS, asgK, parK, escE, escL, escI, dem, dem1, getN, binW, addW, mulW, int2, b1W, lenW, tupleW, listW, intW, isiW, ixW, cmpW, wBool, wInt, isNone, asgE, asgT, asgTs, Tg.is, TgL.is, wipeE, fresh, isBox, datas, W.data?, opt_some, opt_none, M.bind_ret, M.bind_stuck, M.nox_ret, itOf, itEnum, itZip, itRev, ownAt, ownL, W.i, W.b, List.map_cons, List.map_nil, List.set, List.getElem?_cons_zero, List.getElem?_cons_succ, List.length_cons, List.length_nil, List.replicate, List.append_nil, List.nil_append, List.cons_append, ite_true, ite_false, Bool.false_eq_true, reduceCtorEq, if_true, if_false, seqK_nx, seqK_rt, seqK_bk, seqK_ct, finK_rt, finK_nx, parE, t_whl, t_pop, M.bind_assoc, seqW]
  rw [hrun]
  have hle : s'.left = [] := by simpa using he
  obtain ⟨_, _, I3⟩ := I
  rw [hle, roomsL_nil, List.append_nil] at I3
  simp [v_v, v_non, v_bl, v_int, v_str, v_gl, v_fn, v_tup, v_lst, v_dnew, v_bin, v_neg, v_cmp, v_chain, v_isN, v_notN, v_bop, v_b1, v_b2, v_not, v_ite, v_ix, v_sl, v_call, v_callk, v_callv, v_bi, v_isi, v_comp, itB, escB, l_nil, l_cons, o_nil, o_cons, c_nil', c_cons', i_of', i_rng1', i_rng2', i_enum', i_zip', i_rev', s_nil', s_cons', t_asg, t_par, t_ret, t_retN, t_ite, t_for, t_ex, t_put, t_app, t_ext, t_brk, t_cnt, cmpK, iteK, notK, bopK, tupK, lstK, iteS, asgK, parK, escE, escL, escI, dem, dem1, getN, binW, addW, mulW, int2, b1W, lenW, tupleW, listW, intW, isiW, ixW, cmpW, wBool, wInt, isNone, asgE, asgT, asgTs, Tg.is, TgL.is, wipeE, fresh, isBox, datas, W.data?, opt_some, opt_none, M.bind_ret, M.bind_stuck, M.nox_ret, itOf, itEnum, itZip, itRev, ownAt, ownL, W.i, W.b, List.map_cons, List.map_nil, List.set, List.getElem?_cons_zero, List.getElem?_cons_succ, List.length_cons, List.length_nil, List.replicate, List.append_nil, List.nil_append, List.cons_append, ite_true, ite_false, Bool.false_eq_true, reduceCtorEq, if_true, if_false, seqK_nx, seqK_rt, seqK_bk, seqK_ct, finK_rt, finK_nx, parE, t_whl, t_pop, M.bind_assoc, seqW, rsEnv, I3]
theorem sp_closed_so {i_is_within i_parents_so : Nat} (h1 : SpWithin (applyF fs i_is_within)) (h2 : SpParents (applyF fs i_parents_so)) : SpClosedSo (evD fs gs fu 4 3 (PB_closed_so i_is_within i_parents_so)) := fun n ar cs lot sm ha hs => by
  rw [d_run 4 3 _ _ rfl]
  have e2 : ∀ x : Int, applyF fs i_parents_so [drW n ar cs, tI lot, .i x] = _ := fun x => h2 n ar cs lot x ha
  have e1 : ∀ x : Int, applyF fs i_is_within [tI sm, tI (insF ar lot x)] = _ := fun x => h1 sm (insF ar lot x) (by unfold insF; rw [List.length_map]; exact Nat.le_trans (List.length_filter_le _ _) ha)
  simp only [tI, drW, W.i] at e1 e2 ⊢
  simp [PB_closed_so, v_v, v_non, v_bl, v_int, v_str, v_gl, v_fn, v_tup, v_lst, v_dnew, v_bin, v_neg, v_cmp, v_chain, v_isN, v_notN, v_bop, v_b1, v_b2, v_not, v_ite, v_ix, v_sl, v_call, v_callk, v_callv, v_bi, v_isi, v_comp, itB, escB, l_nil, l_cons, o_nil, o_cons, c_nil', c_cons', i_of', i_rng1', i_rng2', i_enum', i_zip', i_rev', s_nil', s_cons', t_asg, t_par, t_ret, t_retN, t_ite, t_for, t_ex, t_put, t_app, t_ext, t_brk, t_cnt, cmpK, iteK, notK, bopK, tupK, lstK, iteS, asgK, parK, escE, escL, escI, dem, dem1, getN, binW, addW, mulW, int2, b1W, lenW, tupleW, listW, intW, isiW, ixW, cmpW, wBool, wInt, isNone, asgE, asgT, asgTs, Tg.is, TgL.is, wipeE, fresh, isBox, datas, W.data?, opt_some, opt_none, M.bind_ret, M.bind_stuck, M.nox_ret, itOf, itEnum, itZip, itRev, ownAt, ownL, W.i, W.b, List.map_cons, List.map_nil, List.set, List.getElem?_cons_zero, List.getElem?_cons_succ, List.length_cons, List.length_nil, List.replicate, List.append_nil, List.nil_append, List.cons_append, ite_true, ite_false, Bool.false_eq_true, reduceCtorEq, if_true, if_false, seqK_nx, seqK_rt, seqK_bk, seqK_ct, finK_rt, finK_nx, parE, t_whl, t_pop, M.bind_assoc, seqW]
  rw [compR_fm (W.d ∘ PyData.int) (fun x => !(insF ar lot x).all fun y => decide (y ∈ sm)) (fun _ => .int 1) hs (fun x hx => by
    cases hq : (insF ar lot x).all fun y => decide (y ∈ sm) <;> simp [stepC, v_v, v_non, v_bl, v_int, v_str, v_gl, v_fn, v_tup, v_lst, v_dnew, v_bin, v_neg, v_cmp, v_chain, v_isN, v_notN, v_bop, v_b1, v_b2, v_not, v_ite, v_ix, v_sl, v_call, v_callk, v_callv, v_bi, v_isi, v_comp, itB, escB, l_nil, l_cons, o_nil, o_cons, c_nil', c_cons', i_of', i_rng1', i_rng2', i_enum', i_zip', i_rev', s_nil', s_cons', t_asg, t_par, t_ret, t_retN, t_ite, t_for, t_ex, t_put, t_app, t_ext, t_brk, t_cnt, cmpK, iteK, notK, bopK, tupK, lstK, iteS, asgK, parK, escE, escL, escI, dem, dem1, getN, binW, addW, mulW, int2, b1W, lenW, tupleW, listW, intW, isiW, ixW, cmpW, wBool, wInt, isNone, asgE, asgT, asgTs, Tg.is, TgL.is, wipeE, fresh, isBox, datas, W.data?, opt_some, opt_none, M.bind_ret, M.bind_stuck, M.nox_ret, itOf, itEnum, itZip, itRev, ownAt, ownL, W.i, W.b, List.map_cons, List.map_nil, List.set, List.getElem?_cons_zero, List.getElem?_cons_succ, List.length_cons, List.length_nil, List.replicate, List.append_nil, List.nil_append, List.cons_append, ite_true, ite_false, Bool.false_eq_true, reduceCtorEq, if_true, if_false, seqK_nx, seqK_rt, seqK_bk, seqK_ct, finK_rt, finK_nx, parE, t_whl, t_pop, M.bind_assoc, seqW, e2, e1, hq])]
  simp [v_v, v_non, v_bl, v_int, v_str, v_gl, v_fn, v_tup, v_lst, v_dnew, v_bin, v_neg, v_cmp, v_chain, v_isN, v_notN, v_bop, v_b1, v_b2, v_not, v_ite, v_ix, v_sl, v_call, v_callk, v_callv, v_bi, v_isi, v_comp, itB, escB, l_nil, l_cons, o_nil, o_cons, c_nil', c_cons', i_of', i_rng1', i_rng2', i_enum', i_zip', i_rev', s_nil', s_cons', t_asg, t_par, t_ret, t_retN, t_ite, t_for, t_ex, t_put, t_app, t_ext, t_brk, t_cnt, cmpK, iteK, notK, bopK, tupK, lstK, iteS, asgK, parK, escE, escL, escI, dem, dem1, getN, binW, addW, mulW, int2, b1W, lenW, tupleW, listW, intW, isiW, ixW, cmpW, wBool, wInt, isNone, asgE, asgT, asgTs, Tg.is, TgL.is, wipeE, fresh, isBox, datas, W.data?, opt_some, opt_none, M.bind_ret, M.bind_stuck, M.nox_ret, itOf, itEnum, itZip, itRev, ownAt, ownL, W.i, W.b, List.map_cons, List.map_nil, List.set, List.getElem?_cons_zero, List.getElem?_cons_succ, List.length_cons, List.length_nil, List.replicate, List.append_nil, List.nil_append, List.cons_append, ite_true, ite_false, Bool.false_eq_true, reduceCtorEq, if_true, if_false, seqK_nx, seqK_rt, seqK_bk, seqK_ct, finK_rt, finK_nx, parE, t_whl, t_pop, M.bind_assoc, seqW, closedB]
  rw [Bool.eq_iff_iff]
  simp
theorem sp_need_drawing {i_check_drawing : Nat} (h : SpDrawing (applyF fs i_check_drawing)) : SpDrawing (evD fs gs fu 1 1 (PB_need_drawing i_check_drawing)) := fun n ar cs d => by
  rw [d_run 1 1 _ _ rfl]
  have e := h n ar cs d
  simp only [PB_need_drawing, v_v, v_non, v_bl, v_int, v_str, v_gl, v_fn, v_tup, v_lst, v_dnew, v_bin, v_neg, v_cmp, v_chain, v_isN, v_notN, v_bop, v_b1, v_b2, v_not, v_ite, v_ix, v_sl, v_call, v_callk, v_callv, v_bi, v_isi, v_comp, itB, escB, l_nil, l_cons, o_nil, o_cons, c_nil', c_cons', i_of', i_rng1', i_rng2', i_enum', i_zip', i_rev', s_nil', s_cons', t_asg, t_par, t_ret, t_retN, t_ite, t_for, t_ex, t_put, t_app, t_ext, t_brk, t_cnt, cmpK, iteK, notK, bopK, tupK, lstK, iteS, asgK, parK, escE, escL, escI, dem, dem1, getN, binW, addW, mulW, int2, b1W, lenW, tupleW, listW, intW, isiW, ixW, cmpW, wBool, wInt, isNone, asgE, asgT, asgTs, Tg.is, TgL.is, wipeE, fresh, isBox, datas, W.data?, opt_some, opt_none, M.bind_ret, M.bind_stuck, M.nox_ret, itOf, itEnum, itZip, itRev, ownAt, ownL, W.i, W.b, List.map_cons, List.map_nil, List.set, List.getElem?_cons_zero, List.getElem?_cons_succ, List.length_cons, List.length_nil, List.replicate, List.append_nil, List.nil_append, List.cons_append, ite_true, ite_false, Bool.false_eq_true, reduceCtorEq, if_true, if_false, seqK_nx, seqK_rt, seqK_bk, seqK_ct, finK_rt, finK_nx, parE, t_whl, t_pop, M.bind_assoc, seqW, e]
theorem sp_need_lot {i_check_lot i_check_drawing : Nat} (h1 : SpLot (applyF fs i_check_lot)) (h2 : SpDrawing (applyF fs i_check_drawing)) : SpNeedLot (evD fs gs fu 2 2 (PB_need_lot i_check_lot i_check_drawing)) := fun n ar cs xs d hx => by
  rw [d_run 2 2 _ _ rfl]
  have e1 := h1 n ar cs xs hx
  have e2 := h2 n ar cs d
  simp only [PB_need_lot, v_v, v_non, v_bl, v_int, v_str, v_gl, v_fn, v_tup, v_lst, v_dnew, v_bin, v_neg, v_cmp, v_chain, v_isN, v_notN, v_bop, v_b1, v_b2, v_not, v_ite, v_ix, v_sl, v_call, v_callk, v_callv, v_bi, v_isi, v_comp, itB, escB, l_nil, l_cons, o_nil, o_cons, c_nil', c_cons', i_of', i_rng1', i_rng2', i_enum', i_zip', i_rev', s_nil', s_cons', t_asg, t_par, t_ret, t_retN, t_ite, t_for, t_ex, t_put, t_app, t_ext, t_brk, t_cnt, cmpK, iteK, notK, bopK, tupK, lstK, iteS, asgK, parK, escE, escL, escI, dem, dem1, getN, binW, addW, mulW, int2, b1W, lenW, tupleW, listW, intW, isiW, ixW, cmpW, wBool, wInt, isNone, asgE, asgT, asgTs, Tg.is, TgL.is, wipeE, fresh, isBox, datas, W.data?, opt_some, opt_none, M.bind_ret, M.bind_stuck, M.nox_ret, itOf, itEnum, itZip, itRev, ownAt, ownL, W.i, W.b, List.map_cons, List.map_nil, List.set, List.getElem?_cons_zero, List.getElem?_cons_succ, List.length_cons, List.length_nil, List.replicate, List.append_nil, List.nil_append, List.cons_append, ite_true, ite_false, Bool.false_eq_true, reduceCtorEq, if_true, if_false, seqK_nx, seqK_rt, seqK_bk, seqK_ct, finK_rt, finK_nx, parE, t_whl, t_pop, M.bind_assoc, seqW, e1, e2]
theorem sp_parents_of {i_parents_so i_check_thing i_check_lot i_check_drawing : Nat} (h1 : SpParents (applyF fs i_parents_so)) (h2 : SpThing (applyF fs i_check_thing)) (h3 : SpLot (applyF fs i_check_lot)) (h4 : SpDrawing (applyF fs i_check_drawing)) :
    SpParentsOf (evD fs gs fu 3 3 (PB_parents_of i_parents_so i_check_thing i_check_lot i_check_drawing)) := fun n ar cs lot x d hl hx0 hx1 => by
  rw [d_run 3 3 _ _ rfl]
  have e1 := h1 n ar cs lot x d.ar.few
  have e2 := h2 n ar cs x hx0 hx1
  have e3 := h3 n ar cs lot hl
  have e4 := h4 n ar cs d
  simp only [PB_parents_of, v_v, v_non, v_bl, v_int, v_str, v_gl, v_fn, v_tup, v_lst, v_dnew, v_bin, v_neg, v_cmp, v_chain, v_isN, v_notN, v_bop, v_b1, v_b2, v_not, v_ite, v_ix, v_sl, v_call, v_callk, v_callv, v_bi, v_isi, v_comp, itB, escB, l_nil, l_cons, o_nil, o_cons, c_nil', c_cons', i_of', i_rng1', i_rng2', i_enum', i_zip', i_rev', s_nil', s_cons', t_asg, t_par, t_ret, t_retN, t_ite, t_for, t_ex, t_put, t_app, t_ext, t_brk, t_cnt, cmpK, iteK, notK, bopK, tupK, lstK, iteS, asgK, parK, escE, escL, escI, dem, dem1, getN, binW, addW, mulW, int2, b1W, lenW, tupleW, listW, intW, isiW, ixW, cmpW, wBool, wInt, isNone, asgE, asgT, asgTs, Tg.is, TgL.is, wipeE, fresh, isBox, datas, W.data?, opt_some, opt_none, M.bind_ret, M.bind_stuck, M.nox_ret, itOf, itEnum, itZip, itRev, ownAt, ownL, W.i, W.b, List.map_cons, List.map_nil, List.set, List.getElem?_cons_zero, List.getElem?_cons_succ, List.length_cons, List.length_nil, List.replicate, List.append_nil, List.nil_append, List.cons_append, ite_true, ite_false, Bool.false_eq_true, reduceCtorEq, if_true, if_false, seqK_nx, seqK_rt, seqK_bk, seqK_ct, finK_rt, finK_nx, parE, t_whl, t_pop, M.bind_assoc, seqW, e1, e2, e3, e4]
theorem sp_children_of {i_children_so i_check_thing i_check_lot i_check_drawing : Nat} (h1 : SpChildren (applyF fs i_children_so)) (h2 : SpThing (applyF fs i_check_thing)) (h3 : SpLot (applyF fs i_check_lot)) (h4 : SpDrawing (applyF fs i_check_drawing)) :
    SpChildrenOf (evD fs gs fu 3 3 (PB_children_of i_children_so i_check_thing i_check_lot i_check_drawing)) := fun n ar cs lot x d hl hx0 hx1 => by
  rw [d_run 3 3 _ _ rfl]
  have e1 := h1 n ar cs lot x d.ar.few
  have e2 := h2 n ar cs x hx0 hx1
  have e3 := h3 n ar cs lot hl
  have e4 := h4 n ar cs d
  simp only [PB_children_of, v_v, v_non, v_bl, v_int, v_str, v_gl, v_fn, v_tup, v_lst, v_dnew, v_bin, v_neg, v_cmp, v_chain, v_isN, v_notN, v_bop, v_b1, v_b2, v_not, v_ite, v_ix, v_sl, v_call, v_callk, v_callv, v_bi, v_isi, v_comp, itB, escB, l_nil, l_cons, o_nil, o_cons, c_nil', c_cons', i_of', i_rng1', i_rng2', i_enum', i_zip', i_rev', s_nil', s_cons', t_asg, t_par, t_ret, t_retN, t_ite, t_for, t_ex, t_put, t_app, t_ext, t_brk, t_cnt, cmpK, iteK, notK, bopK, tupK, lstK, iteS, asgK, parK, escE, escL, escI, dem, dem1, getN, binW, addW, mulW, int2, b1W, lenW, tupleW, listW, intW, isiW, ixW, cmpW, wBool, wInt, isNone, asgE, asgT, asgTs, Tg.is, TgL.is, wipeE, fresh, isBox, datas, W.data?, opt_some, opt_none, M.bind_ret, M.bind_stuck, M.nox_ret, itOf, itEnum, itZip, itRev, ownAt, ownL, W.i, W.b, List.map_cons, List.map_nil, List.set, List.getElem?_cons_zero, List.getElem?_cons_succ, List.length_cons, List.length_nil, List.replicate, List.append_nil, List.nil_append, List.cons_append, ite_true, ite_false, Bool.false_eq_true, reduceCtorEq, if_true, if_false, seqK_nx, seqK_rt, seqK_bk, seqK_ct, finK_rt, finK_nx, parE, t_whl, t_pop, M.bind_assoc, seqW, e1, e2, e3, e4]
theorem cs_few {n : Int} {cs : List (List Int)} (h : CsOk n cs) : cs.length ≤ cap := by have := h.few; have : cap = 100000 := rfl; omega
theorem sp_causes_of {i_causes_so i_check_thing i_check_drawing : Nat} (h1 : SpCauses (applyF fs i_causes_so)) (h2 : SpThing (applyF fs i_check_thing)) (h4 : SpDrawing (applyF fs i_check_drawing)) :
    SpCausesOf (evD fs gs fu 2 2 (PB_causes_of i_causes_so i_check_thing i_check_drawing)) := fun n ar cs x d hx0 hx1 => by
  rw [d_run 2 2 _ _ rfl]
  have e1 := h1 n ar cs x (cs_few d.cs)
  have e2 := h2 n ar cs x hx0 hx1
  have e4 := h4 n ar cs d
  simp only [PB_causes_of, v_v, v_non, v_bl, v_int, v_str, v_gl, v_fn, v_tup, v_lst, v_dnew, v_bin, v_neg, v_cmp, v_chain, v_isN, v_notN, v_bop, v_b1, v_b2, v_not, v_ite, v_ix, v_sl, v_call, v_callk, v_callv, v_bi, v_isi, v_comp, itB, escB, l_nil, l_cons, o_nil, o_cons, c_nil', c_cons', i_of', i_rng1', i_rng2', i_enum', i_zip', i_rev', s_nil', s_cons', t_asg, t_par, t_ret, t_retN, t_ite, t_for, t_ex, t_put, t_app, t_ext, t_brk, t_cnt, cmpK, iteK, notK, bopK, tupK, lstK, iteS, asgK, parK, escE, escL, escI, dem, dem1, getN, binW, addW, mulW, int2, b1W, lenW, tupleW, listW, intW, isiW, ixW, cmpW, wBool, wInt, isNone, asgE, asgT, asgTs, Tg.is, TgL.is, wipeE, fresh, isBox, datas, W.data?, opt_some, opt_none, M.bind_ret, M.bind_stuck, M.nox_ret, itOf, itEnum, itZip, itRev, ownAt, ownL, W.i, W.b, List.map_cons, List.map_nil, List.set, List.getElem?_cons_zero, List.getElem?_cons_succ, List.length_cons, List.length_nil, List.replicate, List.append_nil, List.nil_append, List.cons_append, ite_true, ite_false, Bool.false_eq_true, reduceCtorEq, if_true, if_false, seqK_nx, seqK_rt, seqK_bk, seqK_ct, finK_rt, finK_nx, parE, t_whl, t_pop, M.bind_assoc, seqW, e1, e2, e4]
theorem sp_linked {i_linked_so i_check_thing i_check_drawing : Nat} (h1 : SpLinked (applyF fs i_linked_so)) (h2 : SpThing (applyF fs i_check_thing)) (h4 : SpDrawing (applyF fs i_check_drawing)) :
    SpLinkedOf (evD fs gs fu 3 3 (PB_linked i_linked_so i_check_thing i_check_drawing)) := fun n ar cs x y d hx0 hx1 hy0 hy1 hne => by
  rw [d_run 3 3 _ _ rfl]
  have e1 := h1 n ar cs x y (cs_few d.cs)
  have e2 := h2 n ar cs x hx0 hx1
  have e3 := h2 n ar cs y hy0 hy1
  have e4 := h4 n ar cs d
  have ne : ¬ y = x := fun z => hne z.symm
  simp [PB_linked, v_v, v_non, v_bl, v_int, v_str, v_gl, v_fn, v_tup, v_lst, v_dnew, v_bin, v_neg, v_cmp, v_chain, v_isN, v_notN, v_bop, v_b1, v_b2, v_not, v_ite, v_ix, v_sl, v_call, v_callk, v_callv, v_bi, v_isi, v_comp, itB, escB, l_nil, l_cons, o_nil, o_cons, c_nil', c_cons', i_of', i_rng1', i_rng2', i_enum', i_zip', i_rev', s_nil', s_cons', t_asg, t_par, t_ret, t_retN, t_ite, t_for, t_ex, t_put, t_app, t_ext, t_brk, t_cnt, cmpK, iteK, notK, bopK, tupK, lstK, iteS, asgK, parK, escE, escL, escI, dem, dem1, getN, binW, addW, mulW, int2, b1W, lenW, tupleW, listW, intW, isiW, ixW, cmpW, wBool, wInt, isNone, asgE, asgT, asgTs, Tg.is, TgL.is, wipeE, fresh, isBox, datas, W.data?, opt_some, opt_none, M.bind_ret, M.bind_stuck, M.nox_ret, itOf, itEnum, itZip, itRev, ownAt, ownL, W.i, W.b, List.map_cons, List.map_nil, List.set, List.getElem?_cons_zero, List.getElem?_cons_succ, List.length_cons, List.length_nil, List.replicate, List.append_nil, List.nil_append, List.cons_append, ite_true, ite_false, Bool.false_eq_true, reduceCtorEq, if_true, if_false, seqK_nx, seqK_rt, seqK_bk, seqK_ct, finK_rt, finK_nx, parE, t_whl, t_pop, M.bind_assoc, seqW, e1, e2, e3, e4, ne]
theorem sp_leading {i_leading_so i_check_within i_check_lot i_check_drawing : Nat} (h1 : SpLeadSo (applyF fs i_leading_so)) (h2 : SpCheckWithin (applyF fs i_check_within)) (h3 : SpLot (applyF fs i_check_lot)) (h4 : SpDrawing (applyF fs i_check_drawing)) :
    SpLeading (evD fs gs fu 3 3 (PB_leading i_leading_so i_check_within i_check_lot i_check_drawing)) := fun n ar cs lot goal d hl hg hs => by
  have := set_len hl
  have := d.hi
  exact leading_ok (h4 n ar cs d) (h3 n ar cs lot hl) (h2 n ar cs lot goal hg hs) (h1 n ar cs lot goal (asc_nodup' hl.asc) (by omega) d.ar.few)
theorem sp_rooms {i_rooms_so i_check_lot i_check_drawing : Nat} (h1 : SpRoomsSo (applyF fs i_rooms_so)) (h3 : SpLot (applyF fs i_check_lot)) (h4 : SpDrawing (applyF fs i_check_drawing)) :
    SpRooms (evD fs gs fu 2 2 (PB_rooms i_rooms_so i_check_lot i_check_drawing)) := fun n ar cs lot d hl => by
  have := set_len hl
  have := d.hi
  rw [d_run 2 2 _ _ rfl]
  have e1 := h1 n ar cs lot (cs_few d.cs) hl.asc (by omega)
  have e3 := h3 n ar cs lot hl
  have e4 := h4 n ar cs d
  simp only [PB_rooms, v_v, v_non, v_bl, v_int, v_str, v_gl, v_fn, v_tup, v_lst, v_dnew, v_bin, v_neg, v_cmp, v_chain, v_isN, v_notN, v_bop, v_b1, v_b2, v_not, v_ite, v_ix, v_sl, v_call, v_callk, v_callv, v_bi, v_isi, v_comp, itB, escB, l_nil, l_cons, o_nil, o_cons, c_nil', c_cons', i_of', i_rng1', i_rng2', i_enum', i_zip', i_rev', s_nil', s_cons', t_asg, t_par, t_ret, t_retN, t_ite, t_for, t_ex, t_put, t_app, t_ext, t_brk, t_cnt, cmpK, iteK, notK, bopK, tupK, lstK, iteS, asgK, parK, escE, escL, escI, dem, dem1, getN, binW, addW, mulW, int2, b1W, lenW, tupleW, listW, intW, isiW, ixW, cmpW, wBool, wInt, isNone, asgE, asgT, asgTs, Tg.is, TgL.is, wipeE, fresh, isBox, datas, W.data?, opt_some, opt_none, M.bind_ret, M.bind_stuck, M.nox_ret, itOf, itEnum, itZip, itRev, ownAt, ownL, W.i, W.b, List.map_cons, List.map_nil, List.set, List.getElem?_cons_zero, List.getElem?_cons_succ, List.length_cons, List.length_nil, List.replicate, List.append_nil, List.nil_append, List.cons_append, ite_true, ite_false, Bool.false_eq_true, reduceCtorEq, if_true, if_false, seqK_nx, seqK_rt, seqK_bk, seqK_ct, finK_rt, finK_nx, parE, t_whl, t_pop, M.bind_assoc, seqW, e1, e3, e4]
theorem sp_closed_up {i_closed_so i_check_within i_check_lot i_check_drawing : Nat} (h1 : SpClosedSo (applyF fs i_closed_so)) (h2 : SpCheckWithin (applyF fs i_check_within)) (h3 : SpLot (applyF fs i_check_lot)) (h4 : SpDrawing (applyF fs i_check_drawing)) :
    SpClosedUp (evD fs gs fu 3 3 (PB_closed_up i_closed_so i_check_within i_check_lot i_check_drawing)) := fun n ar cs lot sm d hl hg hs => by
  rw [d_run 3 3 _ _ rfl]
  have e1 := h1 n ar cs lot sm d.ar.few hg.few
  have e2 := h2 n ar cs lot sm hg hs
  have e3 := h3 n ar cs lot hl
  have e4 := h4 n ar cs d
  simp only [PB_closed_up, v_v, v_non, v_bl, v_int, v_str, v_gl, v_fn, v_tup, v_lst, v_dnew, v_bin, v_neg, v_cmp, v_chain, v_isN, v_notN, v_bop, v_b1, v_b2, v_not, v_ite, v_ix, v_sl, v_call, v_callk, v_callv, v_bi, v_isi, v_comp, itB, escB, l_nil, l_cons, o_nil, o_cons, c_nil', c_cons', i_of', i_rng1', i_rng2', i_enum', i_zip', i_rev', s_nil', s_cons', t_asg, t_par, t_ret, t_retN, t_ite, t_for, t_ex, t_put, t_app, t_ext, t_brk, t_cnt, cmpK, iteK, notK, bopK, tupK, lstK, iteS, asgK, parK, escE, escL, escI, dem, dem1, getN, binW, addW, mulW, int2, b1W, lenW, tupleW, listW, intW, isiW, ixW, cmpW, wBool, wInt, isNone, asgE, asgT, asgTs, Tg.is, TgL.is, wipeE, fresh, isBox, datas, W.data?, opt_some, opt_none, M.bind_ret, M.bind_stuck, M.nox_ret, itOf, itEnum, itZip, itRev, ownAt, ownL, W.i, W.b, List.map_cons, List.map_nil, List.set, List.getElem?_cons_zero, List.getElem?_cons_succ, List.length_cons, List.length_nil, List.replicate, List.append_nil, List.nil_append, List.cons_append, ite_true, ite_false, Bool.false_eq_true, reduceCtorEq, if_true, if_false, seqK_nx, seqK_rt, seqK_bk, seqK_ct, finK_rt, finK_nx, parE, t_whl, t_pop, M.bind_assoc, seqW, e1, e2, e3, e4]
theorem sp_goal_of {i_leading_so i_check_within i_less_so i_every_so i_check_lot i_check_drawing : Nat} (h1 : SpLeadSo (applyF fs i_leading_so)) (h2 : SpCheckWithin (applyF fs i_check_within)) (h5 : SpLess (applyF fs i_less_so)) (h6 : SpEvery (applyF fs i_every_so)) (h3 : SpLot (applyF fs i_check_lot)) (h4 : SpDrawing (applyF fs i_check_drawing)) :
    SpGoalOf (evD fs gs fu 4 3 (PB_goal_of i_leading_so i_check_within i_less_so i_every_so i_check_lot i_check_drawing)) := fun n ar cs sh ends d hs he hd => by
  have hn := d.hi
  have h0 := d.lo
  have hc : cap = 100000 := rfl
  have hf := set_filter hn fun x => decide (x ∉ sh)
  have hl := set_len hf
  have hu := upto_len' n
  exact goal_of_ok (every := upto n) (h4 n ar cs d) (h3 n ar cs sh hs) (h6 n ar cs (by omega) (by omega)) (h5 _ _ (by omega)) (h2 n ar cs _ ends he fun x hx => List.mem_filter.mpr ⟨upto_mem'.mpr (by have := he.rng x hx; omega), by simpa using hd x hx⟩)
    (h1 n ar cs _ ends (asc_nodup' hf.asc) (by omega) d.ar.few)
end
end DS

set_option Elab.async false
set_option linter.all false
set_option autoImplicit false
set_option maxRecDepth 100000
set_option maxHeartbeats 4000000
/-! DP6: draws; drawings that are drawn. -/
namespace DS
open PySem PySem.Spec PySem.SeqAt PyProof.Rows L2
theorem Ok.mono {α : Type} {b b' : Nat} {m : M α} {P : α → Prop} (h : Ok b m P) (hb : b ≤ b') : Ok b' m P := h.imp hb fun _ z => z
theorem Ok.step {α β : Type} {b1 b2 b : Nat} {m : M α} {f : α → M β} {P : α → Prop} {Q : β → Prop} (h : Ok b1 m P) (hb : b1 + b2 ≤ b) (k : ∀ a, P a → Ok b2 (f a) Q) : Ok b (m.bind f) Q := (Ok.bind h k).mono hb
theorem Ok.pure {α : Type} {b : Nat} {m : M α} {P : α → Prop} (h : ∃ a, m = .ret a ∧ P a) : Ok b m P := by
  obtain ⟨a, e, h⟩ := h
  exact Ok.of e h
theorem Ok.eqs {α β : Type} {b : Nat} {m : M α} {a : α} {f : α → M β} {Q : β → Prop} (h : m = .ret a) (k : Ok b (f a) Q) : Ok b (m.bind f) Q := by rw [h]; exact k
section
variable {fs : Fns} {gs : List W} {fu : Nat} {r : Env}
theorem Ok.dr {β : Type} {i : Nat} {l : Int} {b B : Nat} {f : W → M β} {P : β → Prop} (h : ∀ ws, applyF fs i ws = drawF ws) (h0 : 0 < l) (h1 : l < 2 ^ 60) (hb : b + 1 ≤ B) (k : ∀ x : Int, 0 ≤ x → x < l → Ok b (f (.d (.int x))) P) : Ok B ((applyF fs i [.tok, .d (.int l)]).bind f) P := by
  rw [h]
  exact Ok.step (b1 := 1) (b2 := b) (Ok.draw h0 h1) (by omega) fun w ⟨x, e, a, c⟩ => by subst e; exact k x a c
/-- a comprehension that draws for each item whether it is chosen -/
theorem Ok.compF {α β : Type} {tg : Tg} {cs : EL} {elt : E} (g : α → W) (h : α → PyData) {xs : List α} {b2 B : Nat} {f : W → M β} {P : β → Prop} (hl : xs.length ≤ cap) (hs : ∀ x ∈ xs, Ok 1 (stepC fs gs r tg cs elt (g x)) (fun o => o = none ∨ o = some (h x))) (hb : xs.length + b2 ≤ B)
    (k : ∀ zs : List α, zs.Sublist xs → Ok b2 (f (.d (.list (zs.map h)))) P) : Ok B ((compR fs gs r tg cs elt (xs.map g)).bind f) P :=
  Ok.step (b2 := b2) (compR_ok g (fun x o => o = none ∨ o = some (h x)) 1 hl hs) (by omega) fun w ⟨os, h1, e⟩ => by
    obtain ⟨zs, h2, h3⟩ := all2_sub h (fun _ _ z => z) h1
    subst e
    rw [h3]
    exact k zs h2
/-- a comprehension that draws a value for each item -/
theorem Ok.compD {α β γ : Type} {tg : Tg} {cs : EL} {elt : E} (g : α → W) (h : γ → PyData) (R : α → γ → Prop) {xs : List α} {b1 b2 B : Nat} {f : W → M β} {P : β → Prop} (hl : xs.length ≤ cap) (hs : ∀ x ∈ xs, Ok b1 (stepC fs gs r tg cs elt (g x)) (fun o => ∃ y, o = some (h y) ∧ R x y)) (hb : b1 * xs.length + b2 ≤ B)
    (k : ∀ ys : List γ, All2 R xs ys → Ok b2 (f (.d (.list (ys.map h)))) P) : Ok B ((compR fs gs r tg cs elt (xs.map g)).bind f) P :=
  Ok.step (compR_ok g (fun x o => ∃ y, o = some (h y) ∧ R x y) b1 hl hs) hb fun w ⟨os, h1, e⟩ => by
    have go : ∀ {xs : List α} {os : List (Option PyData)}, All2 (fun x o => ∃ y, o = some (h y) ∧ R x y) xs os → ∃ ys, All2 R xs ys ∧ os.filterMap id = ys.map h := by
      intro xs os a
      induction a with
      | nil => exact ⟨[], .nil, rfl⟩
      | cons q _ ih =>
        obtain ⟨y, e, q⟩ := q
        obtain ⟨ys, h1, h2⟩ := ih
        subst e
        exact ⟨y :: ys, .cons q h1, by simpa using h2⟩
    obtain ⟨ys, h2, h3⟩ := go h1
    subst e
    rw [h3]
    exact k ys h2
/-- a loop whose turns all go on -/
theorem Ok.for {α β : Type} {tg : Tg} {body : SL} (g : α → W) (I : Nat → Env → Prop) {xs : List α} {b1 b2 B : Nat} {f : Fl × Env → M β} {P : β → Prop} (h0 : I 0 r) (hs : ∀ (i : Nat) x r, xs[i]? = some x → I i r → ∃ r2, asgT tg (g x) r = some r2 ∧ Ok b1 (evSL fs gs fu body r2) (fun q => q.1 = .nx ∧ I (i + 1) q.2))
    (hb : b1 * xs.length + b2 ≤ B) (k : ∀ r', I xs.length r' → Ok b2 (f (.nx, r')) P) : Ok B ((forR fs gs fu tg body r (xs.map g)).bind f) P := by
  have := forR_ok (fs := fs) (gs := gs) (fu := fu) (tg := tg) (body := body) (ws := xs.map g) b1 I (r := r) h0 (fun i w r hw hI => by
    rw [List.getElem?_map] at hw
    cases hx : xs[i]? with
    | none => rw [hx] at hw; cases hw
    | some x => rw [hx] at hw; cases hw; exact hs i x r hx hI)
  rw [List.length_map] at this
  refine Ok.step this hb fun q ⟨e, hI⟩ => ?_
  obtain ⟨fl, r'⟩ := q
  have e : fl = .nx := e
  subst e
  exact k r' hI
end
theorem All2.len {α β : Type} {R : α → β → Prop} : ∀ {xs : List α} {ys : List β}, All2 R xs ys → xs.length = ys.length
  | _, _, .nil => rfl
  | _, _, .cons _ t => congrArg (· + 1) t.len
theorem All2.right {α β : Type} {R : α → β → Prop} : ∀ {xs : List α} {ys : List β}, All2 R xs ys → ∀ y ∈ ys, ∃ x ∈ xs, R x y
  | _, _, .nil, y, h => by simp at h
  | _, _, .cons (a := a) q t, y, h => by
    rcases List.mem_cons.mp h with rfl | h
    · exact ⟨a, List.mem_cons_self, q⟩
    · obtain ⟨x, h1, h2⟩ := t.right y h
      exact ⟨x, List.mem_cons_of_mem _ h1, h2⟩
/-! ### rows of numbers -/
def fromTo (a n : Int) : List Int := (List.range (n - a).toNat).map fun (k : Nat) => a + (k : Int)
theorem fromTo_mem {a n x : Int} : x ∈ fromTo a n ↔ a ≤ x ∧ x < n := by
  unfold fromTo
  rw [List.mem_map]
  constructor
  · rintro ⟨k, hk, rfl⟩
    have := List.mem_range.mp hk
    omega
  · rintro ⟨h0, h1⟩
    exact ⟨(x - a).toNat, List.mem_range.mpr (by omega), by omega⟩
theorem fromTo_asc (a n : Int) : (fromTo a n).Pairwise (· < ·) := by
  unfold fromTo
  rw [List.pairwise_map]
  exact List.pairwise_lt_range.imp fun h => by omega
theorem fromTo_len (a n : Int) : (fromTo a n).length = (n - a).toNat := by unfold fromTo; rw [List.length_map, List.length_range]
theorem itRng_eq {a b : Int} (h1 : -100 ≤ a) (h2 : a ≤ 100000) (h3 : -100 ≤ b) (h4 : b ≤ 100000) : itRng a b = some ((fromTo a b).map (W.d ∘ PyData.int)) := by
  unfold itRng
  rw [if_pos (by omega)]
  unfold fromTo
  rw [List.map_map]
  rfl
theorem itRng_up {b : Int} (h3 : -100 ≤ b) (h4 : b ≤ 100000) : itRng 0 b = some ((upto b).map (W.d ∘ PyData.int)) := by
  rw [itRng_eq (by omega) (by omega) h3 h4]
  have : fromTo 0 b = upto b := asc_uniqI (fromTo_asc 0 b) (upto_asc' b) fun z => by rw [fromTo_mem, upto_mem']
  rw [this]
theorem upto_get {n : Int} {i : Nat} {x : Int} (h : (upto n)[i]? = some x) : x = (i : Int) ∧ (i : Int) < n := by
  have hl := get_lt' h
  rw [upto_len'] at hl
  unfold upto at h
  rw [List.getElem?_map, List.getElem?_range hl] at h
  cases h
  exact ⟨rfl, by omega⟩
/-! ### arrows, row by row -/
structure ArI (n : Int) (i : Nat) (ar : List (Int × Int)) : Prop where
  ok : ∀ p ∈ ar, ArrowOk n p
  lt : ∀ p ∈ ar, p.1 < i
  asc : ar.Pairwise fun p q => p.1 < q.1 ∨ (p.1 = q.1 ∧ p.2 < q.2)
  len : ar.length ≤ i * 100
theorem ArI.zero (n : Int) : ArI n 0 [] := ⟨fun p h => by simp at h, fun p h => by simp at h, .nil, Nat.zero_le _⟩
theorem ArI.next {n : Int} {i : Nat} {ar : List (Int × Int)} (h : ArI n i ar) (hn : n ≤ 100) (hi : (i : Int) < n) {zs : List Int} (hz : zs.Sublist (fromTo ((i : Int) + 1) n)) : ArI n (i + 1) (ar ++ zs.map fun f => ((i : Int), f)) := by
  have hm : ∀ f ∈ zs, (i : Int) + 1 ≤ f ∧ f < n := fun f hf => fromTo_mem.mp (hz.subset hf)
  refine ⟨fun p hp => ?_, fun p hp => ?_, ?_, ?_⟩
  · rcases List.mem_append.mp hp with hp | hp
    · exact h.ok p hp
    · obtain ⟨f, hf, rfl⟩ := List.mem_map.mp hp
      have := hm f hf
      exact ⟨by dsimp only; omega, by dsimp only; omega, by dsimp only; omega⟩
  · rcases List.mem_append.mp hp with hp | hp
    · have := h.lt p hp; omega
    · obtain ⟨f, hf, rfl⟩ := List.mem_map.mp hp
      dsimp only
      omega
  · refine List.pairwise_append.mpr ⟨h.asc, ?_, fun p hp q hq => ?_⟩
    · rw [List.pairwise_map]
      exact ((fromTo_asc _ _).sublist hz).imp fun z => .inr ⟨rfl, z⟩
    · obtain ⟨f, hf, rfl⟩ := List.mem_map.mp hq
      exact .inl (h.lt p hp)
  · rw [List.length_append, List.length_map]
    have h1 := h.len
    have h2 := hz.length_le
    rw [fromTo_len] at h2
    omega
theorem ArI.ar {n : Int} {i : Nat} {ar : List (Int × Int)} (h : ArI n i ar) (hi : i ≤ 1000) : ArOk n ar := ⟨h.ok, h.asc, by have := h.len; have : cap = 100000 := rfl; omega⟩
/-! ### causes -/
def CauseOk (n : Int) (c : List Int) : Prop := SetOk (n - 1) c ∧ 2 ≤ c.length
theorem insLU_len (x : List Int) : ∀ l, (insLU x l).length ≤ l.length + 1
  | [] => by simp [insLU]
  | y :: ys => by
    unfold insLU
    split
    · simp
    · split
      · simp
      · simpa using insLU_len x ys
theorem sortLU_len : ∀ l : List (List Int), (sortLU l).length ≤ l.length
  | [] => Nat.le_refl _
  | x :: xs => by
    have := insLU_len x (sortLU xs)
    have := sortLU_len xs
    show (insLU x (sortLU xs)).length ≤ xs.length + 1
    omega
theorem cs_sorted {n : Int} {l : List (List Int)} (h : ∀ c ∈ l, CauseOk n c) (hl : l.length ≤ 20) : CsOk n (sortLU l) where
  ok := fun c hc => h c (sortLU_mem.mp hc)
  asc := sortLU_sorted l
  few := Nat.le_trans (sortLU_len l) hl
theorem tupsD_cs : ∀ l : List (List Int), tupsD (l.map csD) = some l
  | [] => rfl
  | c :: l => by
    show (match intsD (c.map PyData.int), tupsD (l.map csD) with | some is, some r => some (is :: r) | _, _ => none) = _
    rw [intsD_ints, tupsD_cs l]
theorem noNil_of : ∀ {l : List (List Int)}, (∀ c ∈ l, c ≠ []) → noNil l = true
  | [], _ => rfl
  | c :: l, h => by
    show (!c.isEmpty && noNil l) = true
    rw [noNil_of fun d hd => h d (List.mem_cons_of_mem _ hd)]
    have := h c List.mem_cons_self
    cases c with
    | nil => exact absurd rfl this
    | cons _ _ => rfl
theorem tupI_csD : tupI = csD := rfl
theorem setD_cs {l : List (List Int)} (hne : ∀ c ∈ l, c ≠ []) (hl : l.length < 64) : setD (l.map csD) = some (.d (.list ((sortLU l).map csD))) := by
  cases l with
  | nil => rfl
  | cons c l =>
    unfold setD
    have e : intsD ((c :: l).map csD) = none := rfl
    rw [e, tupsD_cs]
    dsimp only
    rw [if_pos ⟨noNil_of hne, hl⟩, tupI_csD]
theorem cutD_take (ds : List PyData) (k : Nat) : cutD ds none (some (k : Int)) = ds.take k := by
  unfold cutD
  rw [HT.sIx_none, HT.sIx_nat, List.drop_zero, Nat.sub_zero]
  rcases Nat.lt_or_ge k ds.length with h | h
  · rw [Nat.min_eq_left (Nat.le_of_lt h)]
  · rw [Nat.min_eq_right h, List.take_length, List.take_of_length_le h]
theorem cause_more {n first : Int} {zs : List Int} (h0 : 0 ≤ first) (h1 : first < n - 1) (hn : n ≤ 100) (hz : zs.Sublist (fromTo (first + 1) n)) (hl : 1 < (first :: zs).length) : CauseOk n ((first :: zs).take 4) := by
  have hm : ∀ f ∈ zs, first + 1 ≤ f ∧ f < n := fun f hf => fromTo_mem.mp (hz.subset hf)
  have asc : (first :: zs).Pairwise (· < ·) := List.pairwise_cons.mpr ⟨fun f hf => by have := hm f hf; omega, (fromTo_asc _ _).sublist hz⟩
  have hc : cap = 100000 := rfl
  refine ⟨⟨fun x hx => ?_, asc.sublist (List.take_sublist _ _), by rw [List.length_take]; omega⟩, by rw [List.length_take]; omega⟩
  rcases List.mem_cons.mp (List.take_subset _ _ hx) with rfl | hx
  · omega
  · have := hm x hx; omega
theorem cause_pair {n a b : Int} (h0 : 0 ≤ a) (h1 : a < b) (h2 : b ≤ n - 1) : CauseOk n [a, b] := by
  have hc : cap = 100000 := rfl
  refine ⟨⟨fun x hx => ?_, List.pairwise_pair.mpr h1, by simp; omega⟩, by simp⟩
  rcases List.mem_cons.mp hx with rfl | hx
  · omega
  · rw [List.mem_singleton.mp hx]; omega

/-! ### what can be shown -/
structure Sho (b k : Nat) (d : PyData) : Prop where
  able : d.showable = true
  short : d.leavesShort 600 = true
  bulk : d.bulk ≤ b
  dep : d.depth ≤ k
theorem Sho.ok {b k : Nat} {d : PyData} (h : Sho b k d) (hb : b ≤ 20000) (hk : k ≤ 60) : okS d = true := by
  unfold okS
  rw [h.able, h.short, decide_eq_true (Nat.le_trans h.bulk hb), decide_eq_true (Nat.le_trans h.dep hk)]; rfl
theorem Sho.int {i : Int} (h : i.natAbs < 10 ^ 150) : Sho 0 0 (.int i) := by
  have h2 : i.natAbs < 2 ^ 500 := Nat.lt_of_lt_of_le h (by decide +kernel)
  refine ⟨?_, ?_, Nat.le_refl _, Nat.le_refl _⟩
  · unfold PyData.showable
    rcases Nat.eq_zero_or_pos i.natAbs with z | z
    · rw [z]; decide
    · have := (Nat.log2_lt (by omega)).mpr h2
      exact decide_eq_true (by omega)
  · unfold PyData.leavesShort
    refine decide_eq_true (Nat.le_trans (m := 151) ?_ (by omega))
    show (Str.ofString (toString i)).length ≤ 151
    rw [PySem.ofString_length]
    exact int_text_length_le10 (k := 150) (by decide) h
theorem Sho.small {i : Int} (h0 : -1000 ≤ i) (h1 : i ≤ 1000) : Sho 0 0 (.int i) := .int (Nat.lt_of_le_of_lt (by omega : i.natAbs ≤ 1000) (by decide +kernel))
theorem Sho.bool (c : Bool) : Sho 0 0 (.bool c) := ⟨rfl, rfl, Nat.le_refl _, Nat.le_refl _⟩
theorem Sho.non : Sho 0 0 .none := ⟨rfl, rfl, Nat.le_refl _, Nat.le_refl _⟩
theorem Sho.mono {b k b' k' : Nat} {d : PyData} (h : Sho b k d) (hb : b ≤ b') (hk : k ≤ k') : Sho b' k' d := ⟨h.able, h.short, Nat.le_trans h.bulk hb, Nat.le_trans h.dep hk⟩
structure ShoA (b k : Nat) (ds : List PyData) : Prop where
  able : PyData.showableAll ds = true
  short : PyData.leavesShortAll 600 ds = true
  bulk : PyData.bulkAll ds ≤ b
  dep : PyData.depthAll ds ≤ k
theorem ShoA.nil {b k : Nat} : ShoA b k [] := ⟨rfl, rfl, Nat.zero_le _, Nat.zero_le _⟩
theorem ShoA.cons {b1 b2 b k : Nat} {d : PyData} {ds : List PyData} (h : Sho b1 k d) (t : ShoA b2 k ds) (hb : b1 + 1 + b2 ≤ b) : ShoA b k (d :: ds) := by
  refine ⟨?_, ?_, ?_, ?_⟩
  · unfold PyData.showableAll; rw [h.able, t.able]; rfl
  · unfold PyData.leavesShortAll; rw [h.short, t.short]; rfl
  · unfold PyData.bulkAll; have := h.bulk; have := t.bulk; omega
  · unfold PyData.depthAll; exact Nat.max_le.mpr ⟨h.dep, t.dep⟩
theorem ShoA.map {α : Type} {f : α → PyData} {b k : Nat} : ∀ {xs : List α}, (∀ x ∈ xs, Sho b k (f x)) → ShoA ((b + 1) * xs.length) k (xs.map f)
  | [], _ => .nil
  | x :: xs, h => ShoA.cons (h x List.mem_cons_self) (ShoA.map fun y hy => h y (List.mem_cons_of_mem _ hy)) (by rw [List.length_cons, Nat.mul_succ]; omega)
theorem Sho.tup {b k : Nat} {ds : List PyData} (h : ShoA b k ds) : Sho b (k + 1) (.tuple ds) := ⟨h.able, h.short, h.bulk, by unfold PyData.depth; have := h.dep; omega⟩
theorem Sho.lst {b k : Nat} {ds : List PyData} (h : ShoA b k ds) : Sho b (k + 1) (.list ds) := ⟨h.able, h.short, h.bulk, by unfold PyData.depth; have := h.dep; omega⟩
theorem ShoA.mono {b k b' k' : Nat} {ds : List PyData} (h : ShoA b k ds) (hb : b ≤ b') (hk : k ≤ k') : ShoA b' k' ds := ⟨h.able, h.short, Nat.le_trans h.bulk hb, Nat.le_trans h.dep hk⟩
theorem sho_ints {xs : List Int} (h : ∀ x ∈ xs, -1000 ≤ x ∧ x ≤ 1000) : Sho xs.length 1 (.tuple (xs.map PyData.int)) := .tup ((ShoA.map (b := 0) (k := 0) fun x hx => Sho.small (h x hx).1 (h x hx).2).mono (by omega) (by omega))
theorem like_eq {a b : PyData} (h : okS a = true) (e : a = b) : likeF [.d a, .d b] = .ret (.b true) := by
  subst e
  show (if okS a = true ∧ okS a = true then M.ret (W.b (decide (a.shown = a.shown))) else .stuck) = _
  rw [if_pos ⟨h, h⟩, decide_eq_true rfl]
theorem sho_set {m : Int} {xs : List Int} (h : SetOk m xs) (hm : m ≤ 1000) (hl : xs.length ≤ 100) : Sho 100 1 (.tuple (xs.map PyData.int)) := (sho_ints fun x hx => by have := h.rng x hx; omega).mono hl (Nat.le_refl _)
theorem ar_len {n : Int} {ar : List (Int × Int)} (h : ArOk n ar) (hn : n ≤ 10) : ar.length ≤ 100 := by
  have nd : (ar.map fun p => p.1 * 10 + p.2).Nodup := by
    refine List.pairwise_map.mpr (h.asc.imp_of_mem fun {p q} hp hq z e => ?_)
    have h1 := h.ok p hp
    have h2 := h.ok q hq
    unfold ArrowOk at h1 h2
    omega
  have := nodup_sub_len nd (m := upto 100) fun x hx => by
    obtain ⟨p, hp, rfl⟩ := List.mem_map.mp hx
    have h1 := h.ok p hp
    unfold ArrowOk at h1
    exact upto_mem'.mpr (by omega)
  rw [List.length_map, upto_len'] at this
  omega
theorem sho_dr {n : Int} {ar : List (Int × Int)} {cs : List (List Int)} (d : DrOk n ar cs) : Sho 3000 3 (.tuple [.int n, .tuple (ar.map prD), .tuple (cs.map csD)]) := by
  have h1 := d.lo
  have h2 := d.hi
  have e1 : Sho 300 2 (.tuple (ar.map prD)) := .tup ((ShoA.map (b := 2) (k := 1) fun p hp => Sho.tup (ShoA.cons (b1 := 0) (b2 := 1) (Sho.small (by have := d.ar.ok p hp; unfold ArrowOk at this; omega) (by have := d.ar.ok p hp; unfold ArrowOk at this; omega))
    (ShoA.cons (b1 := 0) (b2 := 0) (Sho.small (by have := d.ar.ok p hp; unfold ArrowOk at this; omega) (by have := d.ar.ok p hp; unfold ArrowOk at this; omega)) .nil (by omega)) (by omega))).mono (by have := ar_len d.ar h2; omega) (by omega))
  have e2 : Sho 2020 2 (.tuple (cs.map csD)) := .tup ((ShoA.map (b := 100) (k := 1) fun c hc => sho_set (d.cs.ok c hc).1 (by omega) (by have := set_len (d.cs.ok c hc).1; omega)).mono (by have := d.cs.few; omega) (by omega))
  exact .tup (ShoA.cons (b1 := 0) (b2 := 2700) ((Sho.small (by omega) (by omega)).mono (by omega) (by omega)) (ShoA.cons (b1 := 300) (b2 := 2300) e1 (ShoA.cons (b1 := 2020) (b2 := 0) e2 .nil (by omega)) (by omega)) (by omega))
end DS

set_option Elab.async false
set_option linter.all false
set_option autoImplicit false
set_option maxRecDepth 100000
set_option maxHeartbeats 8000000
/-! DP7: lots and drawings that the laws draw. -/
namespace DS
open PySem PySem.Spec PySem.SeqAt PyProof.Rows L2
def SpDraw (F : Fn1) : Prop := ∀ ws, F ws = drawF ws
def SpLike (F : Fn1) : Prop := ∀ ws, F ws = likeF ws
abbrev Odd (k : Int) : Prop := 0 < k ∧ k < 1000000
structure IsDr (hi : Int) (w : W) : Prop where
  ex : ∃ n ar cs, w = drW n ar cs ∧ DrOk n ar cs ∧ n ≤ hi
structure IsDrL (lo hi : Int) (w : W) : Prop where
  ex : ∃ n ar cs, w = drW n ar cs ∧ DrOk n ar cs ∧ lo ≤ n ∧ n ≤ hi
structure IsLot (n : Int) (w : W) : Prop where
  ex : ∃ xs, w = tI xs ∧ SetOk (n - 1) xs
structure SlLot1 (F : Fn1) : Prop where
  ok : ∀ n o : Int, 1 ≤ n → n ≤ 10 → Odd o → Ok 10 (F [.tok, .i n, .i o]) (IsLot n)
structure SlDrawing (F : Fn1) (m : Int) : Prop where
  ok : ∀ lo hi : Int, 1 ≤ lo → lo ≤ hi → hi ≤ m → Ok 500 (F [.tok, .i lo, .i hi]) (IsDrL lo hi)
abbrev SlDrawing6 (F : Fn1) : Prop := SlDrawing F 6
abbrev SlDrawing10 (F : Fn1) : Prop := SlDrawing F 10
section
variable {fs : Fns} {gs : List W} {fu : Nat}
theorem sl_lot_1 {i1 : Nat} (hd : SpDraw (applyF fs i1)) : SlLot1 (evD fs gs fu 4 3 (PL_lot_1 i1)) := .mk fun n o h0 h1 ho => by
  have hc : cap = 100000 := rfl
  have hu := upto_len' n
  rw [d_run 4 3 _ _ rfl]
  simp [PL_lot_1, v_v, v_non, v_bl, v_int, v_str, v_gl, v_fn, v_tup, v_lst, v_dnew, v_bin, v_neg, v_cmp, v_chain, v_isN, v_notN, v_bop, v_b1, v_b2, v_not, v_ite, v_ix, v_sl, v_call, v_callk, v_callv, v_bi, v_isi, v_comp, itB, escB, l_nil, l_cons, o_nil, o_cons, c_nil', c_cons', i_of', i_rng1', i_rng2', i_enum', i_zip', i_rev', s_nil', s_cons', t_asg, t_par, t_ret, t_retN, t_ite, t_for, t_ex, t_put, t_app, t_ext, t_brk, t_cnt, cmpK, iteK, notK, bopK, tupK, lstK, iteS, asgK, parK, escE, escL, escI, dem, dem1, getN, binW, addW, mulW, int2, b1W, lenW, tupleW, listW, intW, isiW, ixW, cmpW, wBool, wInt, isNone, asgE, asgT, asgTs, Tg.is, TgL.is, wipeE, fresh, isBox, datas, W.data?, opt_some, opt_none, M.bind_ret, M.bind_stuck, M.nox_ret, itOf, itEnum, itZip, itRev, ownAt, ownL, W.i, W.b, List.map_cons, List.map_nil, List.set, List.getElem?_cons_zero, List.getElem?_cons_succ, List.length_cons, List.length_nil, List.replicate, List.append_nil, List.nil_append, List.cons_append, ite_true, ite_false, Bool.false_eq_true, reduceCtorEq, if_true, if_false, seqK_nx, seqK_rt, seqK_bk, seqK_ct, finK_rt, finK_nx, parE, t_whl, t_pop, M.bind_assoc, seqW, itRng_up (b := n) (by omega) (by omega)]
  refine Ok.compF (b2 := 0) (W.d ∘ PyData.int) PyData.int (by omega) (fun x hx => ?_) (by omega) fun zs hz => ?_
  · simp [stepC, v_v, v_non, v_bl, v_int, v_str, v_gl, v_fn, v_tup, v_lst, v_dnew, v_bin, v_neg, v_cmp, v_chain, v_isN, v_notN, v_bop, v_b1, v_b2, v_not, v_ite, v_ix, v_sl, v_call, v_callk, v_callv, v_bi, v_isi, v_comp, itB, escB, l_nil, l_cons, o_nil, o_cons, c_nil', c_cons', i_of', i_rng1', i_rng2', i_enum', i_zip', i_rev', s_nil', s_cons', t_asg, t_par, t_ret, t_retN, t_ite, t_for, t_ex, t_put, t_app, t_ext, t_brk, t_cnt, cmpK, iteK, notK, bopK, tupK, lstK, iteS, asgK, parK, escE, escL, escI, dem, dem1, getN, binW, addW, mulW, int2, b1W, lenW, tupleW, listW, intW, isiW, ixW, cmpW, wBool, wInt, isNone, asgE, asgT, asgTs, Tg.is, TgL.is, wipeE, fresh, isBox, datas, W.data?, opt_some, opt_none, M.bind_ret, M.bind_stuck, M.nox_ret, itOf, itEnum, itZip, itRev, ownAt, ownL, W.i, W.b, List.map_cons, List.map_nil, List.set, List.getElem?_cons_zero, List.getElem?_cons_succ, List.length_cons, List.length_nil, List.replicate, List.append_nil, List.nil_append, List.cons_append, ite_true, ite_false, Bool.false_eq_true, reduceCtorEq, if_true, if_false, seqK_nx, seqK_rt, seqK_bk, seqK_ct, finK_rt, finK_nx, parE, t_whl, t_pop, M.bind_assoc, seqW]
    exact Ok.dr (b := 0) hd ho.1 (by omega) (by omega) fun k _ _ => by
      by_cases q : k = 0 <;> simp [q, v_v, v_non, v_bl, v_int, v_str, v_gl, v_fn, v_tup, v_lst, v_dnew, v_bin, v_neg, v_cmp, v_chain, v_isN, v_notN, v_bop, v_b1, v_b2, v_not, v_ite, v_ix, v_sl, v_call, v_callk, v_callv, v_bi, v_isi, v_comp, itB, escB, l_nil, l_cons, o_nil, o_cons, c_nil', c_cons', i_of', i_rng1', i_rng2', i_enum', i_zip', i_rev', s_nil', s_cons', t_asg, t_par, t_ret, t_retN, t_ite, t_for, t_ex, t_put, t_app, t_ext, t_brk, t_cnt, cmpK, iteK, notK, bopK, tupK, lstK, iteS, asgK, parK, escE, escL, escI, dem, dem1, getN, binW, addW, mulW, int2, b1W, lenW, tupleW, listW, intW, isiW, ixW, cmpW, wBool, wInt, isNone, asgE, asgT, asgTs, Tg.is, TgL.is, wipeE, fresh, isBox, datas, W.data?, opt_some, opt_none, M.bind_ret, M.bind_stuck, M.nox_ret, itOf, itEnum, itZip, itRev, ownAt, ownL, W.i, W.b, List.map_cons, List.map_nil, List.set, List.getElem?_cons_zero, List.getElem?_cons_succ, List.length_cons, List.length_nil, List.replicate, List.append_nil, List.nil_append, List.cons_append, ite_true, ite_false, Bool.false_eq_true, reduceCtorEq, if_true, if_false, seqK_nx, seqK_rt, seqK_bk, seqK_ct, finK_rt, finK_nx, parE, t_whl, t_pop, M.bind_assoc, seqW] <;> exact Ok.ret (by simp)
  · simp [v_v, v_non, v_bl, v_int, v_str, v_gl, v_fn, v_tup, v_lst, v_dnew, v_bin, v_neg, v_cmp, v_chain, v_isN, v_notN, v_bop, v_b1, v_b2, v_not, v_ite, v_ix, v_sl, v_call, v_callk, v_callv, v_bi, v_isi, v_comp, itB, escB, l_nil, l_cons, o_nil, o_cons, c_nil', c_cons', i_of', i_rng1', i_rng2', i_enum', i_zip', i_rev', s_nil', s_cons', t_asg, t_par, t_ret, t_retN, t_ite, t_for, t_ex, t_put, t_app, t_ext, t_brk, t_cnt, cmpK, iteK, notK, bopK, tupK, lstK, iteS, asgK, parK, escE, escL, escI, dem, dem1, getN, binW, addW, mulW, int2, b1W, lenW, tupleW, listW, intW, isiW, ixW, cmpW, wBool, wInt, isNone, asgE, asgT, asgTs, Tg.is, TgL.is, wipeE, fresh, isBox, datas, W.data?, opt_some, opt_none, M.bind_ret, M.bind_stuck, M.nox_ret, itOf, itEnum, itZip, itRev, ownAt, ownL, W.i, W.b, List.map_cons, List.map_nil, List.set, List.getElem?_cons_zero, List.getElem?_cons_succ, List.length_cons, List.length_nil, List.replicate, List.append_nil, List.nil_append, List.cons_append, ite_true, ite_false, Bool.false_eq_true, reduceCtorEq, if_true, if_false, seqK_nx, seqK_rt, seqK_bk, seqK_ct, finK_rt, finK_nx, parE, t_whl, t_pop, M.bind_assoc, seqW]
    exact Ok.ret ⟨zs, rfl, ⟨fun x hx => by have := upto_mem'.mp (hz.subset hx); omega, (upto_asc' n).sublist hz, by have := hz.length_le; omega⟩⟩
/-! ### arrows, then causes one by one -/
structure Iv3 (lo hi n : Int) (i : Nat) (r : Env) : Prop where
  ex : ∃ (ar : List (Int × Int)) (c6 : C), ArI n i ar ∧ r = [.sh .tok, .sh (.d (.int lo)), .sh (.d (.int hi)), .sh (.d (.int n)), .ow (.d (.list (ar.map prD))), .ow (.d (.list [])), c6, .no, .no, .no, .no, .no]
abbrev loop3A (i1 : Nat) (k3 : Int) : SL := (.cons (.asg (.n 4) (.bin .add (.v 4) (.comp (.n 7) (.rng2 (.bin .add (.v 6) (.int 1)) (.v 3)) (.cons (.cmp .eq (.call i1 (.cons (.v 0) (.cons (.int k3) .nil))) (.int 0)) .nil) (.tup (.cons (.v 6) (.cons (.v 7) .nil)))))) .nil)
theorem turn3A {i1 : Nat} {k3 lo hi n : Int} (hd : SpDraw (applyF fs i1)) (ho : Odd k3) (n10 : n ≤ 10) {i : Nat} {x : Int} (hx : x = (i : Int)) (hin : x < n) {r : Env} (h : Iv3 lo hi n i r) :
    ∃ r2, asgT (.n 6) ((W.d ∘ PyData.int) x) r = some r2 ∧ Ok 10 (evSL fs gs fu (loop3A i1 k3) r2) (fun q => q.1 = .nx ∧ Iv3 lo hi n (i + 1) q.2) := by
  obtain ⟨ar, c6, hA, rfl⟩ := h
  have hc : cap = 100000 := rfl
  refine ⟨_, rfl, ?_⟩
  have x0 : 0 ≤ x := by omega
  have hf := fromTo_len (x + 1) n
  have hA2 := fun zs hz => hA.next (zs := zs) (by omega) (by omega) hz
  rw [← hx] at hA2
  have hP : ∀ ar' : List (Int × Int), ArI n (i + 1) ar' → (fun q : Fl × Env => q.1 = .nx ∧ Iv3 lo hi n (i + 1) q.2) (Fl.nx, [.sh .tok, .sh (.d (.int lo)), .sh (.d (.int hi)), .sh (.d (.int n)), .ow (.d (.list (ar'.map prD))), .ow (.d (.list [])), .sh (.d (.int x)), .no, .no, .no, .no, .no]) := fun ar' h => ⟨rfl, ⟨ar', _, h, rfl⟩⟩
  generalize (fun q : Fl × Env => q.1 = .nx ∧ Iv3 lo hi n (i + 1) q.2) = PP at hP ⊢
  clear hA
  simp [v_v, v_non, v_bl, v_int, v_str, v_gl, v_fn, v_tup, v_lst, v_dnew, v_bin, v_neg, v_cmp, v_chain, v_isN, v_notN, v_bop, v_b1, v_b2, v_not, v_ite, v_ix, v_sl, v_call, v_callk, v_callv, v_bi, v_isi, v_comp, itB, escB, l_nil, l_cons, o_nil, o_cons, c_nil', c_cons', i_of', i_rng1', i_rng2', i_enum', i_zip', i_rev', s_nil', s_cons', t_asg, t_par, t_ret, t_retN, t_ite, t_for, t_ex, t_put, t_app, t_ext, t_brk, t_cnt, cmpK, iteK, notK, bopK, tupK, lstK, iteS, asgK, parK, escE, escL, escI, dem, dem1, getN, binW, addW, mulW, int2, b1W, lenW, tupleW, listW, intW, isiW, ixW, cmpW, wBool, wInt, isNone, asgE, asgT, asgTs, Tg.is, TgL.is, wipeE, fresh, isBox, datas, W.data?, opt_some, opt_none, M.bind_ret, M.bind_stuck, M.nox_ret, itOf, itEnum, itZip, itRev, ownAt, ownL, W.i, W.b, List.map_cons, List.map_nil, List.set, List.getElem?_cons_zero, List.getElem?_cons_succ, List.length_cons, List.length_nil, List.replicate, List.append_nil, List.nil_append, List.cons_append, ite_true, ite_false, Bool.false_eq_true, reduceCtorEq, if_true, if_false, seqK_nx, seqK_rt, seqK_bk, seqK_ct, finK_rt, finK_nx, parE, t_whl, t_pop, M.bind_assoc, seqW, itRng_eq (a := x + 1) (b := n) (by omega) (by omega) (by omega) (by omega)]
  refine Ok.compF (b2 := 0) (W.d ∘ PyData.int) (fun f => prD (x, f)) (by omega) (fun f hf => ?_) (by omega) fun zs hz => ?_
  · simp [stepC, v_v, v_non, v_bl, v_int, v_str, v_gl, v_fn, v_tup, v_lst, v_dnew, v_bin, v_neg, v_cmp, v_chain, v_isN, v_notN, v_bop, v_b1, v_b2, v_not, v_ite, v_ix, v_sl, v_call, v_callk, v_callv, v_bi, v_isi, v_comp, itB, escB, l_nil, l_cons, o_nil, o_cons, c_nil', c_cons', i_of', i_rng1', i_rng2', i_enum', i_zip', i_rev', s_nil', s_cons', t_asg, t_par, t_ret, t_retN, t_ite, t_for, t_ex, t_put, t_app, t_ext, t_brk, t_cnt, cmpK, iteK, notK, bopK, tupK, lstK, iteS, asgK, parK, escE, escL, escI, dem, dem1, getN, binW, addW, mulW, int2, b1W, lenW, tupleW, listW, intW, isiW, ixW, cmpW, wBool, wInt, isNone, asgE, asgT, asgTs, Tg.is, TgL.is, wipeE, fresh, isBox, datas, W.data?, opt_some, opt_none, M.bind_ret, M.bind_stuck, M.nox_ret, itOf, itEnum, itZip, itRev, ownAt, ownL, W.i, W.b, List.map_cons, List.map_nil, List.set, List.getElem?_cons_zero, List.getElem?_cons_succ, List.length_cons, List.length_nil, List.replicate, List.append_nil, List.nil_append, List.cons_append, ite_true, ite_false, Bool.false_eq_true, reduceCtorEq, if_true, if_false, seqK_nx, seqK_rt, seqK_bk, seqK_ct, finK_rt, finK_nx, parE, t_whl, t_pop, M.bind_assoc, seqW]
    exact Ok.dr (b := 0) hd ho.1 (by omega) (by omega) fun k _ _ => by
      by_cases q : k = 0 <;> simp [q, v_v, v_non, v_bl, v_int, v_str, v_gl, v_fn, v_tup, v_lst, v_dnew, v_bin, v_neg, v_cmp, v_chain, v_isN, v_notN, v_bop, v_b1, v_b2, v_not, v_ite, v_ix, v_sl, v_call, v_callk, v_callv, v_bi, v_isi, v_comp, itB, escB, l_nil, l_cons, o_nil, o_cons, c_nil', c_cons', i_of', i_rng1', i_rng2', i_enum', i_zip', i_rev', s_nil', s_cons', t_asg, t_par, t_ret, t_retN, t_ite, t_for, t_ex, t_put, t_app, t_ext, t_brk, t_cnt, cmpK, iteK, notK, bopK, tupK, lstK, iteS, asgK, parK, escE, escL, escI, dem, dem1, getN, binW, addW, mulW, int2, b1W, lenW, tupleW, listW, intW, isiW, ixW, cmpW, wBool, wInt, isNone, asgE, asgT, asgTs, Tg.is, TgL.is, wipeE, fresh, isBox, datas, W.data?, opt_some, opt_none, M.bind_ret, M.bind_stuck, M.nox_ret, itOf, itEnum, itZip, itRev, ownAt, ownL, W.i, W.b, List.map_cons, List.map_nil, List.set, List.getElem?_cons_zero, List.getElem?_cons_succ, List.length_cons, List.length_nil, List.replicate, List.append_nil, List.nil_append, List.cons_append, ite_true, ite_false, Bool.false_eq_true, reduceCtorEq, if_true, if_false, seqK_nx, seqK_rt, seqK_bk, seqK_ct, finK_rt, finK_nx, parE, t_whl, t_pop, M.bind_assoc, seqW, prD] <;> exact Ok.ret (by simp)
  · have hA2 := hA2 zs hz
    have hl := hA2.len
    rw [List.length_append, List.length_map] at hl
    have g : ar.length + zs.length ≤ cap := by omega
    refine Ok.of ?_ (hP _ hA2)
    simp [v_v, v_non, v_bl, v_int, v_str, v_gl, v_fn, v_tup, v_lst, v_dnew, v_bin, v_neg, v_cmp, v_chain, v_isN, v_notN, v_bop, v_b1, v_b2, v_not, v_ite, v_ix, v_sl, v_call, v_callk, v_callv, v_bi, v_isi, v_comp, itB, escB, l_nil, l_cons, o_nil, o_cons, c_nil', c_cons', i_of', i_rng1', i_rng2', i_enum', i_zip', i_rev', s_nil', s_cons', t_asg, t_par, t_ret, t_retN, t_ite, t_for, t_ex, t_put, t_app, t_ext, t_brk, t_cnt, cmpK, iteK, notK, bopK, tupK, lstK, iteS, asgK, parK, escE, escL, escI, dem, dem1, getN, binW, addW, mulW, int2, b1W, lenW, tupleW, listW, intW, isiW, ixW, cmpW, wBool, wInt, isNone, asgE, asgT, asgTs, Tg.is, TgL.is, wipeE, fresh, isBox, datas, W.data?, opt_some, opt_none, M.bind_ret, M.bind_stuck, M.nox_ret, itOf, itEnum, itZip, itRev, ownAt, ownL, W.i, W.b, List.map_cons, List.map_nil, List.set, List.getElem?_cons_zero, List.getElem?_cons_succ, List.length_cons, List.length_nil, List.replicate, List.append_nil, List.nil_append, List.cons_append, ite_true, ite_false, Bool.false_eq_true, reduceCtorEq, if_true, if_false, seqK_nx, seqK_rt, seqK_bk, seqK_ct, finK_rt, finK_nx, parE, t_whl, t_pop, M.bind_assoc, seqW, g]
structure Iv3C (lo hi n : Int) (ar : List (Int × Int)) (i : Nat) (r : Env) : Prop where
  ex : ∃ (cs : List (List Int)) (c6 c8 c9 c10 : C), (∀ c ∈ cs, CauseOk n c) ∧ cs.length = i ∧ r = [.sh .tok, .sh (.d (.int lo)), .sh (.d (.int hi)), .sh (.d (.int n)), .ow (.d (.list (ar.map prD))), .ow (.d (.list (cs.map csD))), c6, .no, c8, c9, c10, .no]
abbrev loop3C (i1 : Nat) (k2 : Int) : SL := (.cons (.asg (.n 9) (.call i1 (.cons (.v 0) (.cons (.bin .sub (.v 3) (.int 1)) .nil)))) (.cons (.asg (.n 10) (.bin .add (.lst (.cons (.v 9) .nil)) (.comp (.n 11) (.rng2 (.bin .add (.v 9) (.int 1)) (.v 3)) (.cons (.cmp .eq (.call i1 (.cons (.v 0) (.cons (.int k2) .nil))) (.int 0)) .nil) (.v 11)))) (.cons (.app 5 (.ite (.cmp .gt (.b1 .len (.v 10)) (.int 1)) (.b1 .tuple (.sl (.v 10) .nil (.cons (.int 4) .nil))) (.tup (.cons (.v 9) (.cons (.bin .sub (.v 3) (.int 1)) .nil))))) .nil)))
theorem turn3C {i1 : Nat} {k2 lo hi n : Int} {ar : List (Int × Int)} (hd : SpDraw (applyF fs i1)) (ho : Odd k2) (n2 : 1 < n) (n10 : n ≤ 10) {i : Nat} (hi9 : i < 20) {x : Int} {r : Env} (h : Iv3C lo hi n ar i r) :
    ∃ r2, asgT (.n 8) ((W.d ∘ PyData.int) x) r = some r2 ∧ Ok 20 (evSL fs gs fu (loop3C i1 k2) r2) (fun q => q.1 = .nx ∧ Iv3C lo hi n ar (i + 1) q.2) := by
  obtain ⟨cs, c6, c8, c9, c10, hC, hlen, rfl⟩ := h
  have hc : cap = 100000 := rfl
  refine ⟨_, rfl, ?_⟩
  have hcs : cs.length < cap := by omega
  have hP : ∀ c c9' c10', CauseOk n c → (fun q : Fl × Env => q.1 = .nx ∧ Iv3C lo hi n ar (i + 1) q.2) (Fl.nx, [.sh .tok, .sh (.d (.int lo)), .sh (.d (.int hi)), .sh (.d (.int n)), .ow (.d (.list (ar.map prD))), .ow (.d (.list ((cs ++ [c]).map csD))), c6, .no, .sh (.d (.int x)), c9', c10', .no]) := fun c c9' c10' h =>
    ⟨rfl, ⟨cs ++ [c], _, _, _, _, fun d hd => (List.mem_append.mp hd).elim (hC d) (fun z => by rw [List.mem_singleton.mp z]; exact h), by rw [List.length_append, hlen]; rfl, rfl⟩⟩
  generalize (fun q : Fl × Env => q.1 = .nx ∧ Iv3C lo hi n ar (i + 1) q.2) = PP at hP ⊢
  simp [v_v, v_non, v_bl, v_int, v_str, v_gl, v_fn, v_tup, v_lst, v_dnew, v_bin, v_neg, v_cmp, v_chain, v_isN, v_notN, v_bop, v_b1, v_b2, v_not, v_ite, v_ix, v_sl, v_call, v_callk, v_callv, v_bi, v_isi, v_comp, itB, escB, l_nil, l_cons, o_nil, o_cons, c_nil', c_cons', i_of', i_rng1', i_rng2', i_enum', i_zip', i_rev', s_nil', s_cons', t_asg, t_par, t_ret, t_retN, t_ite, t_for, t_ex, t_put, t_app, t_ext, t_brk, t_cnt, cmpK, iteK, notK, bopK, tupK, lstK, iteS, asgK, parK, escE, escL, escI, dem, dem1, getN, binW, addW, mulW, int2, b1W, lenW, tupleW, listW, intW, isiW, ixW, cmpW, wBool, wInt, isNone, asgE, asgT, asgTs, Tg.is, TgL.is, wipeE, fresh, isBox, datas, W.data?, opt_some, opt_none, M.bind_ret, M.bind_stuck, M.nox_ret, itOf, itEnum, itZip, itRev, ownAt, ownL, W.i, W.b, List.map_cons, List.map_nil, List.set, List.getElem?_cons_zero, List.getElem?_cons_succ, List.length_cons, List.length_nil, List.replicate, List.append_nil, List.nil_append, List.cons_append, ite_true, ite_false, Bool.false_eq_true, reduceCtorEq, if_true, if_false, seqK_nx, seqK_rt, seqK_bk, seqK_ct, finK_rt, finK_nx, parE, t_whl, t_pop, M.bind_assoc, seqW]
  refine Ok.dr (b := 10) hd (by omega) (by omega) (by omega) fun f f0 f1 => ?_
  have hf := fromTo_len (f + 1) n
  simp [v_v, v_non, v_bl, v_int, v_str, v_gl, v_fn, v_tup, v_lst, v_dnew, v_bin, v_neg, v_cmp, v_chain, v_isN, v_notN, v_bop, v_b1, v_b2, v_not, v_ite, v_ix, v_sl, v_call, v_callk, v_callv, v_bi, v_isi, v_comp, itB, escB, l_nil, l_cons, o_nil, o_cons, c_nil', c_cons', i_of', i_rng1', i_rng2', i_enum', i_zip', i_rev', s_nil', s_cons', t_asg, t_par, t_ret, t_retN, t_ite, t_for, t_ex, t_put, t_app, t_ext, t_brk, t_cnt, cmpK, iteK, notK, bopK, tupK, lstK, iteS, asgK, parK, escE, escL, escI, dem, dem1, getN, binW, addW, mulW, int2, b1W, lenW, tupleW, listW, intW, isiW, ixW, cmpW, wBool, wInt, isNone, asgE, asgT, asgTs, Tg.is, TgL.is, wipeE, fresh, isBox, datas, W.data?, opt_some, opt_none, M.bind_ret, M.bind_stuck, M.nox_ret, itOf, itEnum, itZip, itRev, ownAt, ownL, W.i, W.b, List.map_cons, List.map_nil, List.set, List.getElem?_cons_zero, List.getElem?_cons_succ, List.length_cons, List.length_nil, List.replicate, List.append_nil, List.nil_append, List.cons_append, ite_true, ite_false, Bool.false_eq_true, reduceCtorEq, if_true, if_false, seqK_nx, seqK_rt, seqK_bk, seqK_ct, finK_rt, finK_nx, parE, t_whl, t_pop, M.bind_assoc, seqW, itRng_eq (a := f + 1) (b := n) (by omega) (by omega) (by omega) (by omega)]
  refine Ok.compF (b2 := 0) (W.d ∘ PyData.int) PyData.int (by omega) (fun y hy => ?_) (by omega) fun zs hz => ?_
  · simp [stepC, v_v, v_non, v_bl, v_int, v_str, v_gl, v_fn, v_tup, v_lst, v_dnew, v_bin, v_neg, v_cmp, v_chain, v_isN, v_notN, v_bop, v_b1, v_b2, v_not, v_ite, v_ix, v_sl, v_call, v_callk, v_callv, v_bi, v_isi, v_comp, itB, escB, l_nil, l_cons, o_nil, o_cons, c_nil', c_cons', i_of', i_rng1', i_rng2', i_enum', i_zip', i_rev', s_nil', s_cons', t_asg, t_par, t_ret, t_retN, t_ite, t_for, t_ex, t_put, t_app, t_ext, t_brk, t_cnt, cmpK, iteK, notK, bopK, tupK, lstK, iteS, asgK, parK, escE, escL, escI, dem, dem1, getN, binW, addW, mulW, int2, b1W, lenW, tupleW, listW, intW, isiW, ixW, cmpW, wBool, wInt, isNone, asgE, asgT, asgTs, Tg.is, TgL.is, wipeE, fresh, isBox, datas, W.data?, opt_some, opt_none, M.bind_ret, M.bind_stuck, M.nox_ret, itOf, itEnum, itZip, itRev, ownAt, ownL, W.i, W.b, List.map_cons, List.map_nil, List.set, List.getElem?_cons_zero, List.getElem?_cons_succ, List.length_cons, List.length_nil, List.replicate, List.append_nil, List.nil_append, List.cons_append, ite_true, ite_false, Bool.false_eq_true, reduceCtorEq, if_true, if_false, seqK_nx, seqK_rt, seqK_bk, seqK_ct, finK_rt, finK_nx, parE, t_whl, t_pop, M.bind_assoc, seqW]
    exact Ok.dr (b := 0) hd ho.1 (by omega) (by omega) fun k _ _ => by
      by_cases q : k = 0 <;> simp [q, v_v, v_non, v_bl, v_int, v_str, v_gl, v_fn, v_tup, v_lst, v_dnew, v_bin, v_neg, v_cmp, v_chain, v_isN, v_notN, v_bop, v_b1, v_b2, v_not, v_ite, v_ix, v_sl, v_call, v_callk, v_callv, v_bi, v_isi, v_comp, itB, escB, l_nil, l_cons, o_nil, o_cons, c_nil', c_cons', i_of', i_rng1', i_rng2', i_enum', i_zip', i_rev', s_nil', s_cons', t_asg, t_par, t_ret, t_retN, t_ite, t_for, t_ex, t_put, t_app, t_ext, t_brk, t_cnt, cmpK, iteK, notK, bopK, tupK, lstK, iteS, asgK, parK, escE, escL, escI, dem, dem1, getN, binW, addW, mulW, int2, b1W, lenW, tupleW, listW, intW, isiW, ixW, cmpW, wBool, wInt, isNone, asgE, asgT, asgTs, Tg.is, TgL.is, wipeE, fresh, isBox, datas, W.data?, opt_some, opt_none, M.bind_ret, M.bind_stuck, M.nox_ret, itOf, itEnum, itZip, itRev, ownAt, ownL, W.i, W.b, List.map_cons, List.map_nil, List.set, List.getElem?_cons_zero, List.getElem?_cons_succ, List.length_cons, List.length_nil, List.replicate, List.append_nil, List.nil_append, List.cons_append, ite_true, ite_false, Bool.false_eq_true, reduceCtorEq, if_true, if_false, seqK_nx, seqK_rt, seqK_bk, seqK_ct, finK_rt, finK_nx, parE, t_whl, t_pop, M.bind_assoc, seqW] <;> exact Ok.ret (by simp)
  · have hzl := hz.length_le
    have g : 1 + zs.length ≤ cap := by omega
    have hk := fun q => cause_more (zs := zs) f0 (by omega) (by omega) hz q
    cases zs with
    | nil =>
      refine Ok.of ?_ (hP _ (.sh (.d (.int f))) (.ow (.d (.list [.int f]))) (cause_pair f0 (b := n - 1) (by omega) (by omega)))
      have g0 : 1 ≤ cap := by omega
      simp [v_v, v_non, v_bl, v_int, v_str, v_gl, v_fn, v_tup, v_lst, v_dnew, v_bin, v_neg, v_cmp, v_chain, v_isN, v_notN, v_bop, v_b1, v_b2, v_not, v_ite, v_ix, v_sl, v_call, v_callk, v_callv, v_bi, v_isi, v_comp, itB, escB, l_nil, l_cons, o_nil, o_cons, c_nil', c_cons', i_of', i_rng1', i_rng2', i_enum', i_zip', i_rev', s_nil', s_cons', t_asg, t_par, t_ret, t_retN, t_ite, t_for, t_ex, t_put, t_app, t_ext, t_brk, t_cnt, cmpK, iteK, notK, bopK, tupK, lstK, iteS, asgK, parK, escE, escL, escI, dem, dem1, getN, binW, addW, mulW, int2, b1W, lenW, tupleW, listW, intW, isiW, ixW, cmpW, wBool, wInt, isNone, asgE, asgT, asgTs, Tg.is, TgL.is, wipeE, fresh, isBox, datas, W.data?, opt_some, opt_none, M.bind_ret, M.bind_stuck, M.nox_ret, itOf, itEnum, itZip, itRev, ownAt, ownL, W.i, W.b, List.map_cons, List.map_nil, List.set, List.getElem?_cons_zero, List.getElem?_cons_succ, List.length_cons, List.length_nil, List.replicate, List.append_nil, List.nil_append, List.cons_append, ite_true, ite_false, Bool.false_eq_true, reduceCtorEq, if_true, if_false, seqK_nx, seqK_rt, seqK_bk, seqK_ct, finK_rt, finK_nx, parE, t_whl, t_pop, M.bind_assoc, seqW, intB, appD, hcs, csD, g0]
    | cons z zs =>
      have hl : 1 < (f :: z :: zs).length := by simp
      refine Ok.of ?_ (hP _ (.sh (.d (.int f))) (.ow (.d (.list (.int f :: .int z :: zs.map PyData.int)))) (hk hl))
      have hl2 : (1 : Int) < ((zs.length : Nat) : Int) + 1 + 1 := by omega
      have hcut : cutD (.int f :: .int z :: zs.map PyData.int) none (some 4) = ((f :: z :: zs).take 4).map PyData.int := by
        rw [List.map_take]
        exact cutD_take _ 4
      rw [List.length_cons] at g
      have g2 : 1 + (zs.length + 1) ≤ cap := g
      simp [v_v, v_non, v_bl, v_int, v_str, v_gl, v_fn, v_tup, v_lst, v_dnew, v_bin, v_neg, v_cmp, v_chain, v_isN, v_notN, v_bop, v_b1, v_b2, v_not, v_ite, v_ix, v_sl, v_call, v_callk, v_callv, v_bi, v_isi, v_comp, itB, escB, l_nil, l_cons, o_nil, o_cons, c_nil', c_cons', i_of', i_rng1', i_rng2', i_enum', i_zip', i_rev', s_nil', s_cons', t_asg, t_par, t_ret, t_retN, t_ite, t_for, t_ex, t_put, t_app, t_ext, t_brk, t_cnt, cmpK, iteK, notK, bopK, tupK, lstK, iteS, asgK, parK, escE, escL, escI, dem, dem1, getN, binW, addW, mulW, int2, b1W, lenW, tupleW, listW, intW, isiW, ixW, cmpW, wBool, wInt, isNone, asgE, asgT, asgTs, Tg.is, TgL.is, wipeE, fresh, isBox, datas, W.data?, opt_some, opt_none, M.bind_ret, M.bind_stuck, M.nox_ret, itOf, itEnum, itZip, itRev, ownAt, ownL, W.i, W.b, List.map_cons, List.map_nil, List.set, List.getElem?_cons_zero, List.getElem?_cons_succ, List.length_cons, List.length_nil, List.replicate, List.append_nil, List.nil_append, List.cons_append, ite_true, ite_false, Bool.false_eq_true, reduceCtorEq, if_true, if_false, seqK_nx, seqK_rt, seqK_bk, seqK_ct, finK_rt, finK_nx, parE, t_whl, t_pop, M.bind_assoc, seqW, intB, appD, hcs, csD, g2, hl2, slW, hcut]
theorem sl_drawing_3 {i1 : Nat} {k1 k2 k3 : Int} (hd : SpDraw (applyF fs i1)) (o1 : Odd k1 ∧ k1 < 20) (o2 : Odd k2) (o3 : Odd k3) : SlDrawing10 (evD fs gs fu 12 3 (PL_drawing_3 i1 k1 k2 k3)) := .mk fun lo hi h0 h1 h2 => by
  have hc : cap = 100000 := rfl
  rw [d_run 12 3 _ _ rfl]
  simp [PL_drawing_3, v_v, v_non, v_bl, v_int, v_str, v_gl, v_fn, v_tup, v_lst, v_dnew, v_bin, v_neg, v_cmp, v_chain, v_isN, v_notN, v_bop, v_b1, v_b2, v_not, v_ite, v_ix, v_sl, v_call, v_callk, v_callv, v_bi, v_isi, v_comp, itB, escB, l_nil, l_cons, o_nil, o_cons, c_nil', c_cons', i_of', i_rng1', i_rng2', i_enum', i_zip', i_rev', s_nil', s_cons', t_asg, t_par, t_ret, t_retN, t_ite, t_for, t_ex, t_put, t_app, t_ext, t_brk, t_cnt, cmpK, iteK, notK, bopK, tupK, lstK, iteS, asgK, parK, escE, escL, escI, dem, dem1, getN, binW, addW, mulW, int2, b1W, lenW, tupleW, listW, intW, isiW, ixW, cmpW, wBool, wInt, isNone, asgE, asgT, asgTs, Tg.is, TgL.is, wipeE, fresh, isBox, datas, W.data?, opt_some, opt_none, M.bind_ret, M.bind_stuck, M.nox_ret, itOf, itEnum, itZip, itRev, ownAt, ownL, W.i, W.b, List.map_cons, List.map_nil, List.set, List.getElem?_cons_zero, List.getElem?_cons_succ, List.length_cons, List.length_nil, List.replicate, List.append_nil, List.nil_append, List.cons_append, ite_true, ite_false, Bool.false_eq_true, reduceCtorEq, if_true, if_false, seqK_nx, seqK_rt, seqK_bk, seqK_ct, finK_rt, finK_nx, parE, t_whl, t_pop, M.bind_assoc, seqW]
  refine Ok.dr (b := 490) hd (by omega) (by omega) (by omega) fun x x0 x1 => ?_
  obtain ⟨n, hn⟩ : ∃ n, n = lo + x := ⟨_, rfl⟩
  have n1 : 1 ≤ n := by omega
  have n10 : n ≤ 10 := by omega
  have hu := upto_len' n
  simp [v_v, v_non, v_bl, v_int, v_str, v_gl, v_fn, v_tup, v_lst, v_dnew, v_bin, v_neg, v_cmp, v_chain, v_isN, v_notN, v_bop, v_b1, v_b2, v_not, v_ite, v_ix, v_sl, v_call, v_callk, v_callv, v_bi, v_isi, v_comp, itB, escB, l_nil, l_cons, o_nil, o_cons, c_nil', c_cons', i_of', i_rng1', i_rng2', i_enum', i_zip', i_rev', s_nil', s_cons', t_asg, t_par, t_ret, t_retN, t_ite, t_for, t_ex, t_put, t_app, t_ext, t_brk, t_cnt, cmpK, iteK, notK, bopK, tupK, lstK, iteS, asgK, parK, escE, escL, escI, dem, dem1, getN, binW, addW, mulW, int2, b1W, lenW, tupleW, listW, intW, isiW, ixW, cmpW, wBool, wInt, isNone, asgE, asgT, asgTs, Tg.is, TgL.is, wipeE, fresh, isBox, datas, W.data?, opt_some, opt_none, M.bind_ret, M.bind_stuck, M.nox_ret, itOf, itEnum, itZip, itRev, ownAt, ownL, W.i, W.b, List.map_cons, List.map_nil, List.set, List.getElem?_cons_zero, List.getElem?_cons_succ, List.length_cons, List.length_nil, List.replicate, List.append_nil, List.nil_append, List.cons_append, ite_true, ite_false, Bool.false_eq_true, reduceCtorEq, if_true, if_false, seqK_nx, seqK_rt, seqK_bk, seqK_ct, finK_rt, finK_nx, parE, t_whl, t_pop, M.bind_assoc, seqW, ← hn, itRng_up (b := n) (by omega) (by omega)]
  refine Ok.for (b1 := 10) (b2 := 390) (W.d ∘ PyData.int) (Iv3 lo hi n) ⟨[], _, ArI.zero n, rfl⟩ (fun i x r hx h => turn3A hd o3 n10 (upto_get hx).1 (by have := upto_get hx; omega) h) (by omega) fun r ⟨⟨ar, c6, hA, hr⟩⟩ => ?_
  subst hr
  have hA := hA.ar (by omega)
  have fin : ∀ (m : Int) (c8 c9 c10 : C), 0 ≤ m → m < 20 → (1 < n ∨ m = 0) → Ok 385 ((forR fs gs fu (.n 8) (loop3C i1 k2) [.sh .tok, .sh (.d (.int lo)), .sh (.d (.int hi)), .sh (.d (.int n)), .ow (.d (.list (ar.map prD))), .ow (.d (.list [])), c6, .no, c8, c9, c10, .no] ((upto m).map (W.d ∘ PyData.int))).bind fun a => (seqK fs gs fu (.cons (.ret (.tup (.cons (.v 3) (.cons (.b1 .tuple (.v 4)) (.cons (.b1 .tuple (.b1 .sortedSet (.v 5))) .nil))))) .nil) a).bind finK) (IsDrL lo hi) := by
    intro m c8 c9 c10 m0 m1 hmn
    have hum := upto_len' m
    refine Ok.for (b1 := 20) (b2 := 5) (W.d ∘ PyData.int) (Iv3C lo hi n ar) ⟨[], _, _, _, _, fun c hc => by simp at hc, rfl, rfl⟩ (fun i x r hx h => turn3C hd o2 (by have := upto_get hx; omega) n10 (by have := upto_get hx; omega) h) (by omega) fun r ⟨⟨cs, c6, c8, c9, c10, hC, hlen, hr⟩⟩ => ?_
    subst hr
    have hne : ∀ c ∈ cs, c ≠ [] := fun c hc z => by have := (hC c hc).2; rw [z] at this; simp at this
    refine Ok.of ?_ ⟨n, ar, sortLU cs, rfl, ⟨n1, n10, hA, cs_sorted hC (by omega)⟩, by omega, by omega⟩
    simp [v_v, v_non, v_bl, v_int, v_str, v_gl, v_fn, v_tup, v_lst, v_dnew, v_bin, v_neg, v_cmp, v_chain, v_isN, v_notN, v_bop, v_b1, v_b2, v_not, v_ite, v_ix, v_sl, v_call, v_callk, v_callv, v_bi, v_isi, v_comp, itB, escB, l_nil, l_cons, o_nil, o_cons, c_nil', c_cons', i_of', i_rng1', i_rng2', i_enum', i_zip', i_rev', s_nil', s_cons', t_asg, t_par, t_ret, t_retN, t_ite, t_for, t_ex, t_put, t_app, t_ext, t_brk, t_cnt, cmpK, iteK, notK, bopK, tupK, lstK, iteS, asgK, parK, escE, escL, escI, dem, dem1, getN, binW, addW, mulW, int2, b1W, lenW, tupleW, listW, intW, isiW, ixW, cmpW, wBool, wInt, isNone, asgE, asgT, asgTs, Tg.is, TgL.is, wipeE, fresh, isBox, datas, W.data?, opt_some, opt_none, M.bind_ret, M.bind_stuck, M.nox_ret, itOf, itEnum, itZip, itRev, ownAt, ownL, W.i, W.b, List.map_cons, List.map_nil, List.set, List.getElem?_cons_zero, List.getElem?_cons_succ, List.length_cons, List.length_nil, List.replicate, List.append_nil, List.nil_append, List.cons_append, ite_true, ite_false, Bool.false_eq_true, reduceCtorEq, if_true, if_false, seqK_nx, seqK_rt, seqK_bk, seqK_ct, finK_rt, finK_nx, parE, t_whl, t_pop, M.bind_assoc, seqW, sortedSetW, setD_cs hne (by omega : cs.length < 64)]
  by_cases q : 1 < n
  · simp [v_v, v_non, v_bl, v_int, v_str, v_gl, v_fn, v_tup, v_lst, v_dnew, v_bin, v_neg, v_cmp, v_chain, v_isN, v_notN, v_bop, v_b1, v_b2, v_not, v_ite, v_ix, v_sl, v_call, v_callk, v_callv, v_bi, v_isi, v_comp, itB, escB, l_nil, l_cons, o_nil, o_cons, c_nil', c_cons', i_of', i_rng1', i_rng2', i_enum', i_zip', i_rev', s_nil', s_cons', t_asg, t_par, t_ret, t_retN, t_ite, t_for, t_ex, t_put, t_app, t_ext, t_brk, t_cnt, cmpK, iteK, notK, bopK, tupK, lstK, iteS, asgK, parK, escE, escL, escI, dem, dem1, getN, binW, addW, mulW, int2, b1W, lenW, tupleW, listW, intW, isiW, ixW, cmpW, wBool, wInt, isNone, asgE, asgT, asgTs, Tg.is, TgL.is, wipeE, fresh, isBox, datas, W.data?, opt_some, opt_none, M.bind_ret, M.bind_stuck, M.nox_ret, itOf, itEnum, itZip, itRev, ownAt, ownL, W.i, W.b, List.map_cons, List.map_nil, List.set, List.getElem?_cons_zero, List.getElem?_cons_succ, List.length_cons, List.length_nil, List.replicate, List.append_nil, List.nil_append, List.cons_append, ite_true, ite_false, Bool.false_eq_true, reduceCtorEq, if_true, if_false, seqK_nx, seqK_rt, seqK_bk, seqK_ct, finK_rt, finK_nx, parE, t_whl, t_pop, M.bind_assoc, seqW, intB, q]
    refine Ok.dr (b := 385) hd (by omega) (by omega) (by omega) fun k k0 k1 => ?_
    simp [v_v, v_non, v_bl, v_int, v_str, v_gl, v_fn, v_tup, v_lst, v_dnew, v_bin, v_neg, v_cmp, v_chain, v_isN, v_notN, v_bop, v_b1, v_b2, v_not, v_ite, v_ix, v_sl, v_call, v_callk, v_callv, v_bi, v_isi, v_comp, itB, escB, l_nil, l_cons, o_nil, o_cons, c_nil', c_cons', i_of', i_rng1', i_rng2', i_enum', i_zip', i_rev', s_nil', s_cons', t_asg, t_par, t_ret, t_retN, t_ite, t_for, t_ex, t_put, t_app, t_ext, t_brk, t_cnt, cmpK, iteK, notK, bopK, tupK, lstK, iteS, asgK, parK, escE, escL, escI, dem, dem1, getN, binW, addW, mulW, int2, b1W, lenW, tupleW, listW, intW, isiW, ixW, cmpW, wBool, wInt, isNone, asgE, asgT, asgTs, Tg.is, TgL.is, wipeE, fresh, isBox, datas, W.data?, opt_some, opt_none, M.bind_ret, M.bind_stuck, M.nox_ret, itOf, itEnum, itZip, itRev, ownAt, ownL, W.i, W.b, List.map_cons, List.map_nil, List.set, List.getElem?_cons_zero, List.getElem?_cons_succ, List.length_cons, List.length_nil, List.replicate, List.append_nil, List.nil_append, List.cons_append, ite_true, ite_false, Bool.false_eq_true, reduceCtorEq, if_true, if_false, seqK_nx, seqK_rt, seqK_bk, seqK_ct, finK_rt, finK_nx, parE, t_whl, t_pop, M.bind_assoc, seqW, itRng_up (b := k) (by omega) (by omega)]
    have := fin k .no .no .no k0 (by omega) (.inl q)
    exact this
  · have e : itRng 0 0 = some ((upto 0).map (W.d ∘ PyData.int)) := itRng_up (by omega) (by omega)
    simp [v_v, v_non, v_bl, v_int, v_str, v_gl, v_fn, v_tup, v_lst, v_dnew, v_bin, v_neg, v_cmp, v_chain, v_isN, v_notN, v_bop, v_b1, v_b2, v_not, v_ite, v_ix, v_sl, v_call, v_callk, v_callv, v_bi, v_isi, v_comp, itB, escB, l_nil, l_cons, o_nil, o_cons, c_nil', c_cons', i_of', i_rng1', i_rng2', i_enum', i_zip', i_rev', s_nil', s_cons', t_asg, t_par, t_ret, t_retN, t_ite, t_for, t_ex, t_put, t_app, t_ext, t_brk, t_cnt, cmpK, iteK, notK, bopK, tupK, lstK, iteS, asgK, parK, escE, escL, escI, dem, dem1, getN, binW, addW, mulW, int2, b1W, lenW, tupleW, listW, intW, isiW, ixW, cmpW, wBool, wInt, isNone, asgE, asgT, asgTs, Tg.is, TgL.is, wipeE, fresh, isBox, datas, W.data?, opt_some, opt_none, M.bind_ret, M.bind_stuck, M.nox_ret, itOf, itEnum, itZip, itRev, ownAt, ownL, W.i, W.b, List.map_cons, List.map_nil, List.set, List.getElem?_cons_zero, List.getElem?_cons_succ, List.length_cons, List.length_nil, List.replicate, List.append_nil, List.nil_append, List.cons_append, ite_true, ite_false, Bool.false_eq_true, reduceCtorEq, if_true, if_false, seqK_nx, seqK_rt, seqK_bk, seqK_ct, finK_rt, finK_nx, parE, t_whl, t_pop, M.bind_assoc, seqW, intB, q, e]
    have := fin 0 .no .no .no (by omega) (by omega) (.inr rfl)
    exact this.mono (by omega)
/-! ### arrows and causes of two, row by row -/
def pairC (p : Int × Int) : List Int := [p.1, p.2]
theorem pairC_ok {n : Int} {p : Int × Int} (h : ArrowOk n p) : CauseOk n (pairC p) := cause_pair h.1 h.2.1 h.2.2
theorem pairC_csD (p : Int × Int) : csD (pairC p) = prD p := rfl
theorem pairC_map (ar : List (Int × Int)) : (ar.map pairC).map csD = ar.map prD := by rw [List.map_map]; rfl
theorem pairC_lex {ar : List (Int × Int)} (h : ar.Pairwise fun p q => p.1 < q.1 ∨ (p.1 = q.1 ∧ p.2 < q.2)) : (ar.map pairC).Pairwise fun a b => HT.lexLt a b = true := by
  rw [List.pairwise_map]
  refine h.imp fun {p q} z => ?_
  unfold pairC
  rw [HT.lexLt_cons]
  rcases z with z | ⟨z1, z2⟩
  · rw [if_neg (by omega)]; exact decide_eq_true z
  · rw [if_pos z1, HT.lexLt_cons, if_neg (by omega)]; exact decide_eq_true z2
structure Iv1 (lo hi n : Int) (i : Nat) (r : Env) : Prop where
  ex : ∃ (ar br : List (Int × Int)) (c6 : C), ArI n i ar ∧ ArI n i br ∧ r = [.sh .tok, .sh (.d (.int lo)), .sh (.d (.int hi)), .sh (.d (.int n)), .ow (.d (.list (ar.map prD))), .ow (.d (.list (br.map prD))), c6, .no, .no]
structure Iv4 (lo hi n : Int) (i : Nat) (r : Env) : Prop where
  ex : ∃ (ar br : List (Int × Int)) (c6 : C), ArI n i ar ∧ ArI n i br ∧ r = [.sh .tok, .sh (.d (.int lo)), .sh (.d (.int hi)), .sh (.d (.int n)), .ow (.d (.list (ar.map prD))), .ow (.d (.list (br.map prD))), c6, .no]
abbrev loop1 (i1 : Nat) (k2 k3 : Int) : SL := (.cons (.asg (.n 4) (.bin .add (.v 4) (.comp (.n 7) (.rng2 (.bin .add (.v 6) (.int 1)) (.v 3)) (.cons (.cmp .eq (.call i1 (.cons (.v 0) (.cons (.int k3) .nil))) (.int 0)) .nil) (.tup (.cons (.v 6) (.cons (.v 7) .nil)))))) (.cons (.asg (.n 5) (.bin .add (.v 5) (.comp (.n 7) (.rng2 (.bin .add (.v 6) (.int 1)) (.v 3)) (.cons (.cmp .eq (.call i1 (.cons (.v 0) (.cons (.int k2) .nil))) (.int 0)) .nil) (.tup (.cons (.v 6) (.cons (.v 7) .nil)))))) .nil))
theorem turn1 {i1 : Nat} {k2 k3 lo hi n : Int} (hd : SpDraw (applyF fs i1)) (o2 : Odd k2) (o3 : Odd k3) (n10 : n ≤ 10) {i : Nat} {x : Int} (hx : x = (i : Int)) (hin : x < n) {r : Env} (h : Iv1 lo hi n i r) :
    ∃ r2, asgT (.n 6) ((W.d ∘ PyData.int) x) r = some r2 ∧ Ok 20 (evSL fs gs fu (loop1 i1 k2 k3) r2) (fun q => q.1 = .nx ∧ Iv1 lo hi n (i + 1) q.2) := by
  obtain ⟨ar, br, c6, hA, hB, rfl⟩ := h
  have hc : cap = 100000 := rfl
  refine ⟨_, rfl, ?_⟩
  have x0 : 0 ≤ x := by omega
  have hf := fromTo_len (x + 1) n
  have hA2 := fun zs hz => hA.next (zs := zs) (by omega) (by omega) hz
  have hB2 := fun zs hz => hB.next (zs := zs) (by omega) (by omega) hz
  rw [← hx] at hA2 hB2
  have hal := hA.len
  have hbl := hB.len
  have hP : ∀ ar' br' : List (Int × Int), ArI n (i + 1) ar' → ArI n (i + 1) br' → (fun q : Fl × Env => q.1 = .nx ∧ Iv1 lo hi n (i + 1) q.2) (Fl.nx, [.sh .tok, .sh (.d (.int lo)), .sh (.d (.int hi)), .sh (.d (.int n)), .ow (.d (.list (ar'.map prD))), .ow (.d (.list (br'.map prD))), .sh (.d (.int x)), .no, .no]) := fun ar' br' h k => ⟨rfl, ⟨ar', br', _, h, k, rfl⟩⟩
  generalize (fun q : Fl × Env => q.1 = .nx ∧ Iv1 lo hi n (i + 1) q.2) = PP at hP ⊢
  have hi10 : i ≤ 10 := by omega
  clear hA hB
  simp [v_v, v_non, v_bl, v_int, v_str, v_gl, v_fn, v_tup, v_lst, v_dnew, v_bin, v_neg, v_cmp, v_chain, v_isN, v_notN, v_bop, v_b1, v_b2, v_not, v_ite, v_ix, v_sl, v_call, v_callk, v_callv, v_bi, v_isi, v_comp, itB, escB, l_nil, l_cons, o_nil, o_cons, c_nil', c_cons', i_of', i_rng1', i_rng2', i_enum', i_zip', i_rev', s_nil', s_cons', t_asg, t_par, t_ret, t_retN, t_ite, t_for, t_ex, t_put, t_app, t_ext, t_brk, t_cnt, cmpK, iteK, notK, bopK, tupK, lstK, iteS, asgK, parK, escE, escL, escI, dem, dem1, getN, binW, addW, mulW, int2, b1W, lenW, tupleW, listW, intW, isiW, ixW, cmpW, wBool, wInt, isNone, asgE, asgT, asgTs, Tg.is, TgL.is, wipeE, fresh, isBox, datas, W.data?, opt_some, opt_none, M.bind_ret, M.bind_stuck, M.nox_ret, itOf, itEnum, itZip, itRev, ownAt, ownL, W.i, W.b, List.map_cons, List.map_nil, List.set, List.getElem?_cons_zero, List.getElem?_cons_succ, List.length_cons, List.length_nil, List.replicate, List.append_nil, List.nil_append, List.cons_append, ite_true, ite_false, Bool.false_eq_true, reduceCtorEq, if_true, if_false, seqK_nx, seqK_rt, seqK_bk, seqK_ct, finK_rt, finK_nx, parE, t_whl, t_pop, M.bind_assoc, seqW, itRng_eq (a := x + 1) (b := n) (by omega) (by omega) (by omega) (by omega)]
  refine Ok.compF (b2 := 10) (W.d ∘ PyData.int) (fun f => prD (x, f)) (by omega) (fun f hf => ?_) (by omega) fun zs hz => ?_
  · simp [stepC, v_v, v_non, v_bl, v_int, v_str, v_gl, v_fn, v_tup, v_lst, v_dnew, v_bin, v_neg, v_cmp, v_chain, v_isN, v_notN, v_bop, v_b1, v_b2, v_not, v_ite, v_ix, v_sl, v_call, v_callk, v_callv, v_bi, v_isi, v_comp, itB, escB, l_nil, l_cons, o_nil, o_cons, c_nil', c_cons', i_of', i_rng1', i_rng2', i_enum', i_zip', i_rev', s_nil', s_cons', t_asg, t_par, t_ret, t_retN, t_ite, t_for, t_ex, t_put, t_app, t_ext, t_brk, t_cnt, cmpK, iteK, notK, bopK, tupK, lstK, iteS, asgK, parK, escE, escL, escI, dem, dem1, getN, binW, addW, mulW, int2, b1W, lenW, tupleW, listW, intW, isiW, ixW, cmpW, wBool, wInt, isNone, asgE, asgT, asgTs, Tg.is, TgL.is, wipeE, fresh, isBox, datas, W.data?, opt_some, opt_none, M.bind_ret, M.bind_stuck, M.nox_ret, itOf, itEnum, itZip, itRev, ownAt, ownL, W.i, W.b, List.map_cons, List.map_nil, List.set, List.getElem?_cons_zero, List.getElem?_cons_succ, List.length_cons, List.length_nil, List.replicate, List.append_nil, List.nil_append, List.cons_append, ite_true, ite_false, Bool.false_eq_true, reduceCtorEq, if_true, if_false, seqK_nx, seqK_rt, seqK_bk, seqK_ct, finK_rt, finK_nx, parE, t_whl, t_pop, M.bind_assoc, seqW]
    exact Ok.dr (b := 0) hd o3.1 (by omega) (by omega) fun k _ _ => by
      by_cases q : k = 0 <;> simp [q, v_v, v_non, v_bl, v_int, v_str, v_gl, v_fn, v_tup, v_lst, v_dnew, v_bin, v_neg, v_cmp, v_chain, v_isN, v_notN, v_bop, v_b1, v_b2, v_not, v_ite, v_ix, v_sl, v_call, v_callk, v_callv, v_bi, v_isi, v_comp, itB, escB, l_nil, l_cons, o_nil, o_cons, c_nil', c_cons', i_of', i_rng1', i_rng2', i_enum', i_zip', i_rev', s_nil', s_cons', t_asg, t_par, t_ret, t_retN, t_ite, t_for, t_ex, t_put, t_app, t_ext, t_brk, t_cnt, cmpK, iteK, notK, bopK, tupK, lstK, iteS, asgK, parK, escE, escL, escI, dem, dem1, getN, binW, addW, mulW, int2, b1W, lenW, tupleW, listW, intW, isiW, ixW, cmpW, wBool, wInt, isNone, asgE, asgT, asgTs, Tg.is, TgL.is, wipeE, fresh, isBox, datas, W.data?, opt_some, opt_none, M.bind_ret, M.bind_stuck, M.nox_ret, itOf, itEnum, itZip, itRev, ownAt, ownL, W.i, W.b, List.map_cons, List.map_nil, List.set, List.getElem?_cons_zero, List.getElem?_cons_succ, List.length_cons, List.length_nil, List.replicate, List.append_nil, List.nil_append, List.cons_append, ite_true, ite_false, Bool.false_eq_true, reduceCtorEq, if_true, if_false, seqK_nx, seqK_rt, seqK_bk, seqK_ct, finK_rt, finK_nx, parE, t_whl, t_pop, M.bind_assoc, seqW, prD] <;> exact Ok.ret (by simp)
  · have hzl := hz.length_le
    have g : ar.length + zs.length ≤ cap := by omega
    simp [v_v, v_non, v_bl, v_int, v_str, v_gl, v_fn, v_tup, v_lst, v_dnew, v_bin, v_neg, v_cmp, v_chain, v_isN, v_notN, v_bop, v_b1, v_b2, v_not, v_ite, v_ix, v_sl, v_call, v_callk, v_callv, v_bi, v_isi, v_comp, itB, escB, l_nil, l_cons, o_nil, o_cons, c_nil', c_cons', i_of', i_rng1', i_rng2', i_enum', i_zip', i_rev', s_nil', s_cons', t_asg, t_par, t_ret, t_retN, t_ite, t_for, t_ex, t_put, t_app, t_ext, t_brk, t_cnt, cmpK, iteK, notK, bopK, tupK, lstK, iteS, asgK, parK, escE, escL, escI, dem, dem1, getN, binW, addW, mulW, int2, b1W, lenW, tupleW, listW, intW, isiW, ixW, cmpW, wBool, wInt, isNone, asgE, asgT, asgTs, Tg.is, TgL.is, wipeE, fresh, isBox, datas, W.data?, opt_some, opt_none, M.bind_ret, M.bind_stuck, M.nox_ret, itOf, itEnum, itZip, itRev, ownAt, ownL, W.i, W.b, List.map_cons, List.map_nil, List.set, List.getElem?_cons_zero, List.getElem?_cons_succ, List.length_cons, List.length_nil, List.replicate, List.append_nil, List.nil_append, List.cons_append, ite_true, ite_false, Bool.false_eq_true, reduceCtorEq, if_true, if_false, seqK_nx, seqK_rt, seqK_bk, seqK_ct, finK_rt, finK_nx, parE, t_whl, t_pop, M.bind_assoc, seqW, g, itRng_eq (a := x + 1) (b := n) (by omega) (by omega) (by omega) (by omega)]
    refine Ok.compF (b2 := 0) (W.d ∘ PyData.int) (fun f => prD (x, f)) (by omega) (fun f hf => ?_) (by omega) fun ys hy => ?_
    · simp [stepC, v_v, v_non, v_bl, v_int, v_str, v_gl, v_fn, v_tup, v_lst, v_dnew, v_bin, v_neg, v_cmp, v_chain, v_isN, v_notN, v_bop, v_b1, v_b2, v_not, v_ite, v_ix, v_sl, v_call, v_callk, v_callv, v_bi, v_isi, v_comp, itB, escB, l_nil, l_cons, o_nil, o_cons, c_nil', c_cons', i_of', i_rng1', i_rng2', i_enum', i_zip', i_rev', s_nil', s_cons', t_asg, t_par, t_ret, t_retN, t_ite, t_for, t_ex, t_put, t_app, t_ext, t_brk, t_cnt, cmpK, iteK, notK, bopK, tupK, lstK, iteS, asgK, parK, escE, escL, escI, dem, dem1, getN, binW, addW, mulW, int2, b1W, lenW, tupleW, listW, intW, isiW, ixW, cmpW, wBool, wInt, isNone, asgE, asgT, asgTs, Tg.is, TgL.is, wipeE, fresh, isBox, datas, W.data?, opt_some, opt_none, M.bind_ret, M.bind_stuck, M.nox_ret, itOf, itEnum, itZip, itRev, ownAt, ownL, W.i, W.b, List.map_cons, List.map_nil, List.set, List.getElem?_cons_zero, List.getElem?_cons_succ, List.length_cons, List.length_nil, List.replicate, List.append_nil, List.nil_append, List.cons_append, ite_true, ite_false, Bool.false_eq_true, reduceCtorEq, if_true, if_false, seqK_nx, seqK_rt, seqK_bk, seqK_ct, finK_rt, finK_nx, parE, t_whl, t_pop, M.bind_assoc, seqW]
      exact Ok.dr (b := 0) hd o2.1 (by omega) (by omega) fun k _ _ => by
        by_cases q : k = 0 <;> simp [q, v_v, v_non, v_bl, v_int, v_str, v_gl, v_fn, v_tup, v_lst, v_dnew, v_bin, v_neg, v_cmp, v_chain, v_isN, v_notN, v_bop, v_b1, v_b2, v_not, v_ite, v_ix, v_sl, v_call, v_callk, v_callv, v_bi, v_isi, v_comp, itB, escB, l_nil, l_cons, o_nil, o_cons, c_nil', c_cons', i_of', i_rng1', i_rng2', i_enum', i_zip', i_rev', s_nil', s_cons', t_asg, t_par, t_ret, t_retN, t_ite, t_for, t_ex, t_put, t_app, t_ext, t_brk, t_cnt, cmpK, iteK, notK, bopK, tupK, lstK, iteS, asgK, parK, escE, escL, escI, dem, dem1, getN, binW, addW, mulW, int2, b1W, lenW, tupleW, listW, intW, isiW, ixW, cmpW, wBool, wInt, isNone, asgE, asgT, asgTs, Tg.is, TgL.is, wipeE, fresh, isBox, datas, W.data?, opt_some, opt_none, M.bind_ret, M.bind_stuck, M.nox_ret, itOf, itEnum, itZip, itRev, ownAt, ownL, W.i, W.b, List.map_cons, List.map_nil, List.set, List.getElem?_cons_zero, List.getElem?_cons_succ, List.length_cons, List.length_nil, List.replicate, List.append_nil, List.nil_append, List.cons_append, ite_true, ite_false, Bool.false_eq_true, reduceCtorEq, if_true, if_false, seqK_nx, seqK_rt, seqK_bk, seqK_ct, finK_rt, finK_nx, parE, t_whl, t_pop, M.bind_assoc, seqW, prD] <;> exact Ok.ret (by simp)
    · have hyl := hy.length_le
      have g2 : br.length + ys.length ≤ cap := by omega
      refine Ok.of ?_ (hP _ _ (hA2 zs hz) (hB2 ys hy))
      simp [v_v, v_non, v_bl, v_int, v_str, v_gl, v_fn, v_tup, v_lst, v_dnew, v_bin, v_neg, v_cmp, v_chain, v_isN, v_notN, v_bop, v_b1, v_b2, v_not, v_ite, v_ix, v_sl, v_call, v_callk, v_callv, v_bi, v_isi, v_comp, itB, escB, l_nil, l_cons, o_nil, o_cons, c_nil', c_cons', i_of', i_rng1', i_rng2', i_enum', i_zip', i_rev', s_nil', s_cons', t_asg, t_par, t_ret, t_retN, t_ite, t_for, t_ex, t_put, t_app, t_ext, t_brk, t_cnt, cmpK, iteK, notK, bopK, tupK, lstK, iteS, asgK, parK, escE, escL, escI, dem, dem1, getN, binW, addW, mulW, int2, b1W, lenW, tupleW, listW, intW, isiW, ixW, cmpW, wBool, wInt, isNone, asgE, asgT, asgTs, Tg.is, TgL.is, wipeE, fresh, isBox, datas, W.data?, opt_some, opt_none, M.bind_ret, M.bind_stuck, M.nox_ret, itOf, itEnum, itZip, itRev, ownAt, ownL, W.i, W.b, List.map_cons, List.map_nil, List.set, List.getElem?_cons_zero, List.getElem?_cons_succ, List.length_cons, List.length_nil, List.replicate, List.append_nil, List.nil_append, List.cons_append, ite_true, ite_false, Bool.false_eq_true, reduceCtorEq, if_true, if_false, seqK_nx, seqK_rt, seqK_bk, seqK_ct, finK_rt, finK_nx, parE, t_whl, t_pop, M.bind_assoc, seqW, g2]
theorem turn4 {i1 : Nat} {k2 k3 lo hi n : Int} (hd : SpDraw (applyF fs i1)) (o2 : Odd k2) (o3 : Odd k3) (n10 : n ≤ 10) {i : Nat} {x : Int} (hx : x = (i : Int)) (hin : x < n) {r : Env} (h : Iv4 lo hi n i r) :
    ∃ r2, asgT (.n 6) ((W.d ∘ PyData.int) x) r = some r2 ∧ Ok 20 (evSL fs gs fu (loop1 i1 k2 k3) r2) (fun q => q.1 = .nx ∧ Iv4 lo hi n (i + 1) q.2) := by
  obtain ⟨ar, br, c6, hA, hB, rfl⟩ := h
  have hc : cap = 100000 := rfl
  refine ⟨_, rfl, ?_⟩
  have x0 : 0 ≤ x := by omega
  have hf := fromTo_len (x + 1) n
  have hA2 := fun zs hz => hA.next (zs := zs) (by omega) (by omega) hz
  have hB2 := fun zs hz => hB.next (zs := zs) (by omega) (by omega) hz
  rw [← hx] at hA2 hB2
  have hal := hA.len
  have hbl := hB.len
  have hP : ∀ ar' br' : List (Int × Int), ArI n (i + 1) ar' → ArI n (i + 1) br' → (fun q : Fl × Env => q.1 = .nx ∧ Iv4 lo hi n (i + 1) q.2) (Fl.nx, [.sh .tok, .sh (.d (.int lo)), .sh (.d (.int hi)), .sh (.d (.int n)), .ow (.d (.list (ar'.map prD))), .ow (.d (.list (br'.map prD))), .sh (.d (.int x)), .no]) := fun ar' br' h k => ⟨rfl, ⟨ar', br', _, h, k, rfl⟩⟩
  generalize (fun q : Fl × Env => q.1 = .nx ∧ Iv4 lo hi n (i + 1) q.2) = PP at hP ⊢
  have hi10 : i ≤ 10 := by omega
  clear hA hB
  simp [v_v, v_non, v_bl, v_int, v_str, v_gl, v_fn, v_tup, v_lst, v_dnew, v_bin, v_neg, v_cmp, v_chain, v_isN, v_notN, v_bop, v_b1, v_b2, v_not, v_ite, v_ix, v_sl, v_call, v_callk, v_callv, v_bi, v_isi, v_comp, itB, escB, l_nil, l_cons, o_nil, o_cons, c_nil', c_cons', i_of', i_rng1', i_rng2', i_enum', i_zip', i_rev', s_nil', s_cons', t_asg, t_par, t_ret, t_retN, t_ite, t_for, t_ex, t_put, t_app, t_ext, t_brk, t_cnt, cmpK, iteK, notK, bopK, tupK, lstK, iteS, asgK, parK, escE, escL, escI, dem, dem1, getN, binW, addW, mulW, int2, b1W, lenW, tupleW, listW, intW, isiW, ixW, cmpW, wBool, wInt, isNone, asgE, asgT, asgTs, Tg.is, TgL.is, wipeE, fresh, isBox, datas, W.data?, opt_some, opt_none, M.bind_ret, M.bind_stuck, M.nox_ret, itOf, itEnum, itZip, itRev, ownAt, ownL, W.i, W.b, List.map_cons, List.map_nil, List.set, List.getElem?_cons_zero, List.getElem?_cons_succ, List.length_cons, List.length_nil, List.replicate, List.append_nil, List.nil_append, List.cons_append, ite_true, ite_false, Bool.false_eq_true, reduceCtorEq, if_true, if_false, seqK_nx, seqK_rt, seqK_bk, seqK_ct, finK_rt, finK_nx, parE, t_whl, t_pop, M.bind_assoc, seqW, itRng_eq (a := x + 1) (b := n) (by omega) (by omega) (by omega) (by omega)]
  refine Ok.compF (b2 := 10) (W.d ∘ PyData.int) (fun f => prD (x, f)) (by omega) (fun f hf => ?_) (by omega) fun zs hz => ?_
  · simp [stepC, v_v, v_non, v_bl, v_int, v_str, v_gl, v_fn, v_tup, v_lst, v_dnew, v_bin, v_neg, v_cmp, v_chain, v_isN, v_notN, v_bop, v_b1, v_b2, v_not, v_ite, v_ix, v_sl, v_call, v_callk, v_callv, v_bi, v_isi, v_comp, itB, escB, l_nil, l_cons, o_nil, o_cons, c_nil', c_cons', i_of', i_rng1', i_rng2', i_enum', i_zip', i_rev', s_nil', s_cons', t_asg, t_par, t_ret, t_retN, t_ite, t_for, t_ex, t_put, t_app, t_ext, t_brk, t_cnt, cmpK, iteK, notK, bopK, tupK, lstK, iteS, asgK, parK, escE, escL, escI, dem, dem1, getN, binW, addW, mulW, int2, b1W, lenW, tupleW, listW, intW, isiW, ixW, cmpW, wBool, wInt, isNone, asgE, asgT, asgTs, Tg.is, TgL.is, wipeE, fresh, isBox, datas, W.data?, opt_some, opt_none, M.bind_ret, M.bind_stuck, M.nox_ret, itOf, itEnum, itZip, itRev, ownAt, ownL, W.i, W.b, List.map_cons, List.map_nil, List.set, List.getElem?_cons_zero, List.getElem?_cons_succ, List.length_cons, List.length_nil, List.replicate, List.append_nil, List.nil_append, List.cons_append, ite_true, ite_false, Bool.false_eq_true, reduceCtorEq, if_true, if_false, seqK_nx, seqK_rt, seqK_bk, seqK_ct, finK_rt, finK_nx, parE, t_whl, t_pop, M.bind_assoc, seqW]
    exact Ok.dr (b := 0) hd o3.1 (by omega) (by omega) fun k _ _ => by
      by_cases q : k = 0 <;> simp [q, v_v, v_non, v_bl, v_int, v_str, v_gl, v_fn, v_tup, v_lst, v_dnew, v_bin, v_neg, v_cmp, v_chain, v_isN, v_notN, v_bop, v_b1, v_b2, v_not, v_ite, v_ix, v_sl, v_call, v_callk, v_callv, v_bi, v_isi, v_comp, itB, escB, l_nil, l_cons, o_nil, o_cons, c_nil', c_cons', i_of', i_rng1', i_rng2', i_enum', i_zip', i_rev', s_nil', s_cons', t_asg, t_par, t_ret, t_retN, t_ite, t_for, t_ex, t_put, t_app, t_ext, t_brk, t_cnt, cmpK, iteK, notK, bopK, tupK, lstK, iteS, asgK, parK, escE, escL, escI, dem, dem1, getN, binW, addW, mulW, int2, b1W, lenW, tupleW, listW, intW, isiW, ixW, cmpW, wBool, wInt, isNone, asgE, asgT, asgTs, Tg.is, TgL.is, wipeE, fresh, isBox, datas, W.data?, opt_some, opt_none, M.bind_ret, M.bind_stuck, M.nox_ret, itOf, itEnum, itZip, itRev, ownAt, ownL, W.i, W.b, List.map_cons, List.map_nil, List.set, List.getElem?_cons_zero, List.getElem?_cons_succ, List.length_cons, List.length_nil, List.replicate, List.append_nil, List.nil_append, List.cons_append, ite_true, ite_false, Bool.false_eq_true, reduceCtorEq, if_true, if_false, seqK_nx, seqK_rt, seqK_bk, seqK_ct, finK_rt, finK_nx, parE, t_whl, t_pop, M.bind_assoc, seqW, prD] <;> exact Ok.ret (by simp)
  · have hzl := hz.length_le
    have g : ar.length + zs.length ≤ cap := by omega
    simp [v_v, v_non, v_bl, v_int, v_str, v_gl, v_fn, v_tup, v_lst, v_dnew, v_bin, v_neg, v_cmp, v_chain, v_isN, v_notN, v_bop, v_b1, v_b2, v_not, v_ite, v_ix, v_sl, v_call, v_callk, v_callv, v_bi, v_isi, v_comp, itB, escB, l_nil, l_cons, o_nil, o_cons, c_nil', c_cons', i_of', i_rng1', i_rng2', i_enum', i_zip', i_rev', s_nil', s_cons', t_asg, t_par, t_ret, t_retN, t_ite, t_for, t_ex, t_put, t_app, t_ext, t_brk, t_cnt, cmpK, iteK, notK, bopK, tupK, lstK, iteS, asgK, parK, escE, escL, escI, dem, dem1, getN, binW, addW, mulW, int2, b1W, lenW, tupleW, listW, intW, isiW, ixW, cmpW, wBool, wInt, isNone, asgE, asgT, asgTs, Tg.is, TgL.is, wipeE, fresh, isBox, datas, W.data?, opt_some, opt_none, M.bind_ret, M.bind_stuck, M.nox_ret, itOf, itEnum, itZip, itRev, ownAt, ownL, W.i, W.b, List.map_cons, List.map_nil, List.set, List.getElem?_cons_zero, List.getElem?_cons_succ, List.length_cons, List.length_nil, List.replicate, List.append_nil, List.nil_append, List.cons_append, ite_true, ite_false, Bool.false_eq_true, reduceCtorEq, if_true, if_false, seqK_nx, seqK_rt, seqK_bk, seqK_ct, finK_rt, finK_nx, parE, t_whl, t_pop, M.bind_assoc, seqW, g, itRng_eq (a := x + 1) (b := n) (by omega) (by omega) (by omega) (by omega)]
    refine Ok.compF (b2 := 0) (W.d ∘ PyData.int) (fun f => prD (x, f)) (by omega) (fun f hf => ?_) (by omega) fun ys hy => ?_
    · simp [stepC, v_v, v_non, v_bl, v_int, v_str, v_gl, v_fn, v_tup, v_lst, v_dnew, v_bin, v_neg, v_cmp, v_chain, v_isN, v_notN, v_bop, v_b1, v_b2, v_not, v_ite, v_ix, v_sl, v_call, v_callk, v_callv, v_bi, v_isi, v_comp, itB, escB, l_nil, l_cons, o_nil, o_cons, c_nil', c_cons', i_of', i_rng1', i_rng2', i_enum', i_zip', i_rev', s_nil', s_cons', t_asg, t_par, t_ret, t_retN, t_ite, t_for, t_ex, t_put, t_app, t_ext, t_brk, t_cnt, cmpK, iteK, notK, bopK, tupK, lstK, iteS, asgK, parK, escE, escL, escI, dem, dem1, getN, binW, addW, mulW, int2, b1W, lenW, tupleW, listW, intW, isiW, ixW, cmpW, wBool, wInt, isNone, asgE, asgT, asgTs, Tg.is, TgL.is, wipeE, fresh, isBox, datas, W.data?, opt_some, opt_none, M.bind_ret, M.bind_stuck, M.nox_ret, itOf, itEnum, itZip, itRev, ownAt, ownL, W.i, W.b, List.map_cons, List.map_nil, List.set, List.getElem?_cons_zero, List.getElem?_cons_succ, List.length_cons, List.length_nil, List.replicate, List.append_nil, List.nil_append, List.cons_append, ite_true, ite_false, Bool.false_eq_true, reduceCtorEq, if_true, if_false, seqK_nx, seqK_rt, seqK_bk, seqK_ct, finK_rt, finK_nx, parE, t_whl, t_pop, M.bind_assoc, seqW]
      exact Ok.dr (b := 0) hd o2.1 (by omega) (by omega) fun k _ _ => by
        by_cases q : k = 0 <;> simp [q, v_v, v_non, v_bl, v_int, v_str, v_gl, v_fn, v_tup, v_lst, v_dnew, v_bin, v_neg, v_cmp, v_chain, v_isN, v_notN, v_bop, v_b1, v_b2, v_not, v_ite, v_ix, v_sl, v_call, v_callk, v_callv, v_bi, v_isi, v_comp, itB, escB, l_nil, l_cons, o_nil, o_cons, c_nil', c_cons', i_of', i_rng1', i_rng2', i_enum', i_zip', i_rev', s_nil', s_cons', t_asg, t_par, t_ret, t_retN, t_ite, t_for, t_ex, t_put, t_app, t_ext, t_brk, t_cnt, cmpK, iteK, notK, bopK, tupK, lstK, iteS, asgK, parK, escE, escL, escI, dem, dem1, getN, binW, addW, mulW, int2, b1W, lenW, tupleW, listW, intW, isiW, ixW, cmpW, wBool, wInt, isNone, asgE, asgT, asgTs, Tg.is, TgL.is, wipeE, fresh, isBox, datas, W.data?, opt_some, opt_none, M.bind_ret, M.bind_stuck, M.nox_ret, itOf, itEnum, itZip, itRev, ownAt, ownL, W.i, W.b, List.map_cons, List.map_nil, List.set, List.getElem?_cons_zero, List.getElem?_cons_succ, List.length_cons, List.length_nil, List.replicate, List.append_nil, List.nil_append, List.cons_append, ite_true, ite_false, Bool.false_eq_true, reduceCtorEq, if_true, if_false, seqK_nx, seqK_rt, seqK_bk, seqK_ct, finK_rt, finK_nx, parE, t_whl, t_pop, M.bind_assoc, seqW, prD] <;> exact Ok.ret (by simp)
    · have hyl := hy.length_le
      have g2 : br.length + ys.length ≤ cap := by omega
      refine Ok.of ?_ (hP _ _ (hA2 zs hz) (hB2 ys hy))
      simp [v_v, v_non, v_bl, v_int, v_str, v_gl, v_fn, v_tup, v_lst, v_dnew, v_bin, v_neg, v_cmp, v_chain, v_isN, v_notN, v_bop, v_b1, v_b2, v_not, v_ite, v_ix, v_sl, v_call, v_callk, v_callv, v_bi, v_isi, v_comp, itB, escB, l_nil, l_cons, o_nil, o_cons, c_nil', c_cons', i_of', i_rng1', i_rng2', i_enum', i_zip', i_rev', s_nil', s_cons', t_asg, t_par, t_ret, t_retN, t_ite, t_for, t_ex, t_put, t_app, t_ext, t_brk, t_cnt, cmpK, iteK, notK, bopK, tupK, lstK, iteS, asgK, parK, escE, escL, escI, dem, dem1, getN, binW, addW, mulW, int2, b1W, lenW, tupleW, listW, intW, isiW, ixW, cmpW, wBool, wInt, isNone, asgE, asgT, asgTs, Tg.is, TgL.is, wipeE, fresh, isBox, datas, W.data?, opt_some, opt_none, M.bind_ret, M.bind_stuck, M.nox_ret, itOf, itEnum, itZip, itRev, ownAt, ownL, W.i, W.b, List.map_cons, List.map_nil, List.set, List.getElem?_cons_zero, List.getElem?_cons_succ, List.length_cons, List.length_nil, List.replicate, List.append_nil, List.nil_append, List.cons_append, ite_true, ite_false, Bool.false_eq_true, reduceCtorEq, if_true, if_false, seqK_nx, seqK_rt, seqK_bk, seqK_ct, finK_rt, finK_nx, parE, t_whl, t_pop, M.bind_assoc, seqW, g2]
theorem pair_few {n : Int} {ar : List (Int × Int)} (h : ArOk n ar) (hn : n ≤ 6) : ar.length ≤ 15 := by
  have nd : (ar.map fun p => if p.2 = 1 then 0 else if p.2 = 2 then 1 + p.1 else if p.2 = 3 then 3 + p.1 else if p.2 = 4 then 6 + p.1 else 10 + p.1).Nodup := by
    refine List.pairwise_map.mpr (h.asc.imp_of_mem fun {p q} hp hq z e => ?_)
    have h1 := h.ok p hp
    have h2 := h.ok q hq
    unfold ArrowOk at h1 h2
    split at e <;> split at e <;> (try split at e) <;> (try split at e) <;> (try split at e) <;> (try split at e) <;> (try split at e) <;> (try split at e) <;> omega
  have := nodup_sub_len nd (m := upto 15) fun x hx => by
    obtain ⟨p, hp, rfl⟩ := List.mem_map.mp hx
    have h1 := h.ok p hp
    unfold ArrowOk at h1
    refine upto_mem'.mpr ?_
    split <;> (try split) <;> (try split) <;> (try split) <;> omega
  rw [List.length_map, upto_len'] at this
  omega
theorem cause_three {n f : Int} (h0 : 0 ≤ f) (h1 : f < n - 2) : CauseOk n [f, f + 1, n - 1] := by
  have hc : cap = 100000 := rfl
  refine ⟨⟨fun x hx => ?_, ?_, by simp; omega⟩, by simp⟩
  · simp at hx; omega
  · simp; omega
theorem sl_drawing_1 {i1 : Nat} {k1 k2 k3 : Int} (hd : SpDraw (applyF fs i1)) (o1 : Odd k1) (o2 : Odd k2) (o3 : Odd k3) : SlDrawing6 (evD fs gs fu 9 3 (PL_drawing_1 i1 k1 k2 k3)) := .mk fun lo hi h0 h1 h2 => by
  have hc : cap = 100000 := rfl
  rw [d_run 9 3 _ _ rfl]
  simp [PL_drawing_1, v_v, v_non, v_bl, v_int, v_str, v_gl, v_fn, v_tup, v_lst, v_dnew, v_bin, v_neg, v_cmp, v_chain, v_isN, v_notN, v_bop, v_b1, v_b2, v_not, v_ite, v_ix, v_sl, v_call, v_callk, v_callv, v_bi, v_isi, v_comp, itB, escB, l_nil, l_cons, o_nil, o_cons, c_nil', c_cons', i_of', i_rng1', i_rng2', i_enum', i_zip', i_rev', s_nil', s_cons', t_asg, t_par, t_ret, t_retN, t_ite, t_for, t_ex, t_put, t_app, t_ext, t_brk, t_cnt, cmpK, iteK, notK, bopK, tupK, lstK, iteS, asgK, parK, escE, escL, escI, dem, dem1, getN, binW, addW, mulW, int2, b1W, lenW, tupleW, listW, intW, isiW, ixW, cmpW, wBool, wInt, isNone, asgE, asgT, asgTs, Tg.is, TgL.is, wipeE, fresh, isBox, datas, W.data?, opt_some, opt_none, M.bind_ret, M.bind_stuck, M.nox_ret, itOf, itEnum, itZip, itRev, ownAt, ownL, W.i, W.b, List.map_cons, List.map_nil, List.set, List.getElem?_cons_zero, List.getElem?_cons_succ, List.length_cons, List.length_nil, List.replicate, List.append_nil, List.nil_append, List.cons_append, ite_true, ite_false, Bool.false_eq_true, reduceCtorEq, if_true, if_false, seqK_nx, seqK_rt, seqK_bk, seqK_ct, finK_rt, finK_nx, parE, t_whl, t_pop, M.bind_assoc, seqW]
  refine Ok.dr (b := 490) hd (by omega) (by omega) (by omega) fun x x0 x1 => ?_
  obtain ⟨n, hn⟩ : ∃ n, n = lo + x := ⟨_, rfl⟩
  have n1 : 1 ≤ n := by omega
  have n10 : n ≤ 6 := by omega
  have hu := upto_len' n
  simp [v_v, v_non, v_bl, v_int, v_str, v_gl, v_fn, v_tup, v_lst, v_dnew, v_bin, v_neg, v_cmp, v_chain, v_isN, v_notN, v_bop, v_b1, v_b2, v_not, v_ite, v_ix, v_sl, v_call, v_callk, v_callv, v_bi, v_isi, v_comp, itB, escB, l_nil, l_cons, o_nil, o_cons, c_nil', c_cons', i_of', i_rng1', i_rng2', i_enum', i_zip', i_rev', s_nil', s_cons', t_asg, t_par, t_ret, t_retN, t_ite, t_for, t_ex, t_put, t_app, t_ext, t_brk, t_cnt, cmpK, iteK, notK, bopK, tupK, lstK, iteS, asgK, parK, escE, escL, escI, dem, dem1, getN, binW, addW, mulW, int2, b1W, lenW, tupleW, listW, intW, isiW, ixW, cmpW, wBool, wInt, isNone, asgE, asgT, asgTs, Tg.is, TgL.is, wipeE, fresh, isBox, datas, W.data?, opt_some, opt_none, M.bind_ret, M.bind_stuck, M.nox_ret, itOf, itEnum, itZip, itRev, ownAt, ownL, W.i, W.b, List.map_cons, List.map_nil, List.set, List.getElem?_cons_zero, List.getElem?_cons_succ, List.length_cons, List.length_nil, List.replicate, List.append_nil, List.nil_append, List.cons_append, ite_true, ite_false, Bool.false_eq_true, reduceCtorEq, if_true, if_false, seqK_nx, seqK_rt, seqK_bk, seqK_ct, finK_rt, finK_nx, parE, t_whl, t_pop, M.bind_assoc, seqW, ← hn, itRng_up (b := n) (by omega) (by omega)]
  refine Ok.for (b1 := 20) (b2 := 90) (W.d ∘ PyData.int) (Iv1 lo hi n) ⟨[], [], _, ArI.zero n, ArI.zero n, rfl⟩ (fun i x r hx h => turn1 hd o2 o3 (by omega) (upto_get hx).1 (by have := upto_get hx; omega) h) (by omega) fun r ⟨⟨ar, br, c6, hA, hB, hr⟩⟩ => ?_
  subst hr
  have hA := hA.ar (by omega)
  have hB := hB.ar (by omega)
  have hb15 := pair_few hB n10
  have ok0 : ∀ c ∈ br.map pairC, CauseOk n c := fun c hc => by obtain ⟨p, hp, rfl⟩ := List.mem_map.mp hc; exact pairC_ok (hB.ok p hp)
  have fin : ∀ cs : List (List Int), (∀ c ∈ cs, CauseOk n c) → cs.length ≤ 20 → setD (cs.map csD) = some (.d (.list ((sortLU cs).map csD))) ∧ IsDrL lo hi (drW n ar (sortLU cs)) := fun cs h hl =>
    ⟨setD_cs (fun c hc z => by have := (h c hc).2; rw [z] at this; simp at this) (by omega), ⟨n, ar, sortLU cs, rfl, ⟨n1, by omega, hA, cs_sorted h hl⟩, by omega, by omega⟩⟩
  obtain ⟨e0, d0⟩ := fin _ ok0 (by rw [List.length_map]; omega)
  rw [pairC_map] at e0
  by_cases q : 2 < n
  · simp [v_v, v_non, v_bl, v_int, v_str, v_gl, v_fn, v_tup, v_lst, v_dnew, v_bin, v_neg, v_cmp, v_chain, v_isN, v_notN, v_bop, v_b1, v_b2, v_not, v_ite, v_ix, v_sl, v_call, v_callk, v_callv, v_bi, v_isi, v_comp, itB, escB, l_nil, l_cons, o_nil, o_cons, c_nil', c_cons', i_of', i_rng1', i_rng2', i_enum', i_zip', i_rev', s_nil', s_cons', t_asg, t_par, t_ret, t_retN, t_ite, t_for, t_ex, t_put, t_app, t_ext, t_brk, t_cnt, cmpK, iteK, notK, bopK, tupK, lstK, iteS, asgK, parK, escE, escL, escI, dem, dem1, getN, binW, addW, mulW, int2, b1W, lenW, tupleW, listW, intW, isiW, ixW, cmpW, wBool, wInt, isNone, asgE, asgT, asgTs, Tg.is, TgL.is, wipeE, fresh, isBox, datas, W.data?, opt_some, opt_none, M.bind_ret, M.bind_stuck, M.nox_ret, itOf, itEnum, itZip, itRev, ownAt, ownL, W.i, W.b, List.map_cons, List.map_nil, List.set, List.getElem?_cons_zero, List.getElem?_cons_succ, List.length_cons, List.length_nil, List.replicate, List.append_nil, List.nil_append, List.cons_append, ite_true, ite_false, Bool.false_eq_true, reduceCtorEq, if_true, if_false, seqK_nx, seqK_rt, seqK_bk, seqK_ct, finK_rt, finK_nx, parE, t_whl, t_pop, M.bind_assoc, seqW, intB, q]
    refine Ok.dr (b := 80) hd o1.1 (by omega) (by omega) fun k k0 k1 => ?_
    by_cases q2 : k = 0
    · simp [v_v, v_non, v_bl, v_int, v_str, v_gl, v_fn, v_tup, v_lst, v_dnew, v_bin, v_neg, v_cmp, v_chain, v_isN, v_notN, v_bop, v_b1, v_b2, v_not, v_ite, v_ix, v_sl, v_call, v_callk, v_callv, v_bi, v_isi, v_comp, itB, escB, l_nil, l_cons, o_nil, o_cons, c_nil', c_cons', i_of', i_rng1', i_rng2', i_enum', i_zip', i_rev', s_nil', s_cons', t_asg, t_par, t_ret, t_retN, t_ite, t_for, t_ex, t_put, t_app, t_ext, t_brk, t_cnt, cmpK, iteK, notK, bopK, tupK, lstK, iteS, asgK, parK, escE, escL, escI, dem, dem1, getN, binW, addW, mulW, int2, b1W, lenW, tupleW, listW, intW, isiW, ixW, cmpW, wBool, wInt, isNone, asgE, asgT, asgTs, Tg.is, TgL.is, wipeE, fresh, isBox, datas, W.data?, opt_some, opt_none, M.bind_ret, M.bind_stuck, M.nox_ret, itOf, itEnum, itZip, itRev, ownAt, ownL, W.i, W.b, List.map_cons, List.map_nil, List.set, List.getElem?_cons_zero, List.getElem?_cons_succ, List.length_cons, List.length_nil, List.replicate, List.append_nil, List.nil_append, List.cons_append, ite_true, ite_false, Bool.false_eq_true, reduceCtorEq, if_true, if_false, seqK_nx, seqK_rt, seqK_bk, seqK_ct, finK_rt, finK_nx, parE, t_whl, t_pop, M.bind_assoc, seqW, q2]
      refine Ok.dr (b := 70) hd (by omega) (by omega) (by omega) fun f f0 f1 => ?_
      obtain ⟨e1, d1⟩ := fin (br.map pairC ++ [[f, f + 1, n - 1]]) (fun c hc => (List.mem_append.mp hc).elim (ok0 c) fun z => by rw [List.mem_singleton.mp z]; exact cause_three f0 f1) (by rw [List.length_append, List.length_map]; simp; omega)
      rw [List.map_append, pairC_map] at e1
      have g : br.length < cap := by omega
      refine Ok.of ?_ d1
      simp [csD] at e1
      simp [v_v, v_non, v_bl, v_int, v_str, v_gl, v_fn, v_tup, v_lst, v_dnew, v_bin, v_neg, v_cmp, v_chain, v_isN, v_notN, v_bop, v_b1, v_b2, v_not, v_ite, v_ix, v_sl, v_call, v_callk, v_callv, v_bi, v_isi, v_comp, itB, escB, l_nil, l_cons, o_nil, o_cons, c_nil', c_cons', i_of', i_rng1', i_rng2', i_enum', i_zip', i_rev', s_nil', s_cons', t_asg, t_par, t_ret, t_retN, t_ite, t_for, t_ex, t_put, t_app, t_ext, t_brk, t_cnt, cmpK, iteK, notK, bopK, tupK, lstK, iteS, asgK, parK, escE, escL, escI, dem, dem1, getN, binW, addW, mulW, int2, b1W, lenW, tupleW, listW, intW, isiW, ixW, cmpW, wBool, wInt, isNone, asgE, asgT, asgTs, Tg.is, TgL.is, wipeE, fresh, isBox, datas, W.data?, opt_some, opt_none, M.bind_ret, M.bind_stuck, M.nox_ret, itOf, itEnum, itZip, itRev, ownAt, ownL, W.i, W.b, List.map_cons, List.map_nil, List.set, List.getElem?_cons_zero, List.getElem?_cons_succ, List.length_cons, List.length_nil, List.replicate, List.append_nil, List.nil_append, List.cons_append, ite_true, ite_false, Bool.false_eq_true, reduceCtorEq, if_true, if_false, seqK_nx, seqK_rt, seqK_bk, seqK_ct, finK_rt, finK_nx, parE, t_whl, t_pop, M.bind_assoc, seqW, sortedSetW, appD, g, e1]
    · simp [v_v, v_non, v_bl, v_int, v_str, v_gl, v_fn, v_tup, v_lst, v_dnew, v_bin, v_neg, v_cmp, v_chain, v_isN, v_notN, v_bop, v_b1, v_b2, v_not, v_ite, v_ix, v_sl, v_call, v_callk, v_callv, v_bi, v_isi, v_comp, itB, escB, l_nil, l_cons, o_nil, o_cons, c_nil', c_cons', i_of', i_rng1', i_rng2', i_enum', i_zip', i_rev', s_nil', s_cons', t_asg, t_par, t_ret, t_retN, t_ite, t_for, t_ex, t_put, t_app, t_ext, t_brk, t_cnt, cmpK, iteK, notK, bopK, tupK, lstK, iteS, asgK, parK, escE, escL, escI, dem, dem1, getN, binW, addW, mulW, int2, b1W, lenW, tupleW, listW, intW, isiW, ixW, cmpW, wBool, wInt, isNone, asgE, asgT, asgTs, Tg.is, TgL.is, wipeE, fresh, isBox, datas, W.data?, opt_some, opt_none, M.bind_ret, M.bind_stuck, M.nox_ret, itOf, itEnum, itZip, itRev, ownAt, ownL, W.i, W.b, List.map_cons, List.map_nil, List.set, List.getElem?_cons_zero, List.getElem?_cons_succ, List.length_cons, List.length_nil, List.replicate, List.append_nil, List.nil_append, List.cons_append, ite_true, ite_false, Bool.false_eq_true, reduceCtorEq, if_true, if_false, seqK_nx, seqK_rt, seqK_bk, seqK_ct, finK_rt, finK_nx, parE, t_whl, t_pop, M.bind_assoc, seqW, q2]
      refine Ok.of ?_ d0
      simp [v_v, v_non, v_bl, v_int, v_str, v_gl, v_fn, v_tup, v_lst, v_dnew, v_bin, v_neg, v_cmp, v_chain, v_isN, v_notN, v_bop, v_b1, v_b2, v_not, v_ite, v_ix, v_sl, v_call, v_callk, v_callv, v_bi, v_isi, v_comp, itB, escB, l_nil, l_cons, o_nil, o_cons, c_nil', c_cons', i_of', i_rng1', i_rng2', i_enum', i_zip', i_rev', s_nil', s_cons', t_asg, t_par, t_ret, t_retN, t_ite, t_for, t_ex, t_put, t_app, t_ext, t_brk, t_cnt, cmpK, iteK, notK, bopK, tupK, lstK, iteS, asgK, parK, escE, escL, escI, dem, dem1, getN, binW, addW, mulW, int2, b1W, lenW, tupleW, listW, intW, isiW, ixW, cmpW, wBool, wInt, isNone, asgE, asgT, asgTs, Tg.is, TgL.is, wipeE, fresh, isBox, datas, W.data?, opt_some, opt_none, M.bind_ret, M.bind_stuck, M.nox_ret, itOf, itEnum, itZip, itRev, ownAt, ownL, W.i, W.b, List.map_cons, List.map_nil, List.set, List.getElem?_cons_zero, List.getElem?_cons_succ, List.length_cons, List.length_nil, List.replicate, List.append_nil, List.nil_append, List.cons_append, ite_true, ite_false, Bool.false_eq_true, reduceCtorEq, if_true, if_false, seqK_nx, seqK_rt, seqK_bk, seqK_ct, finK_rt, finK_nx, parE, t_whl, t_pop, M.bind_assoc, seqW, sortedSetW, e0]
  · simp [v_v, v_non, v_bl, v_int, v_str, v_gl, v_fn, v_tup, v_lst, v_dnew, v_bin, v_neg, v_cmp, v_chain, v_isN, v_notN, v_bop, v_b1, v_b2, v_not, v_ite, v_ix, v_sl, v_call, v_callk, v_callv, v_bi, v_isi, v_comp, itB, escB, l_nil, l_cons, o_nil, o_cons, c_nil', c_cons', i_of', i_rng1', i_rng2', i_enum', i_zip', i_rev', s_nil', s_cons', t_asg, t_par, t_ret, t_retN, t_ite, t_for, t_ex, t_put, t_app, t_ext, t_brk, t_cnt, cmpK, iteK, notK, bopK, tupK, lstK, iteS, asgK, parK, escE, escL, escI, dem, dem1, getN, binW, addW, mulW, int2, b1W, lenW, tupleW, listW, intW, isiW, ixW, cmpW, wBool, wInt, isNone, asgE, asgT, asgTs, Tg.is, TgL.is, wipeE, fresh, isBox, datas, W.data?, opt_some, opt_none, M.bind_ret, M.bind_stuck, M.nox_ret, itOf, itEnum, itZip, itRev, ownAt, ownL, W.i, W.b, List.map_cons, List.map_nil, List.set, List.getElem?_cons_zero, List.getElem?_cons_succ, List.length_cons, List.length_nil, List.replicate, List.append_nil, List.nil_append, List.cons_append, ite_true, ite_false, Bool.false_eq_true, reduceCtorEq, if_true, if_false, seqK_nx, seqK_rt, seqK_bk, seqK_ct, finK_rt, finK_nx, parE, t_whl, t_pop, M.bind_assoc, seqW, intB, q]
    refine Ok.of ?_ d0
    simp [v_v, v_non, v_bl, v_int, v_str, v_gl, v_fn, v_tup, v_lst, v_dnew, v_bin, v_neg, v_cmp, v_chain, v_isN, v_notN, v_bop, v_b1, v_b2, v_not, v_ite, v_ix, v_sl, v_call, v_callk, v_callv, v_bi, v_isi, v_comp, itB, escB, l_nil, l_cons, o_nil, o_cons, c_nil', c_cons', i_of', i_rng1', i_rng2', i_enum', i_zip', i_rev', s_nil', s_cons', t_asg, t_par, t_ret, t_retN, t_ite, t_for, t_ex, t_put, t_app, t_ext, t_brk, t_cnt, cmpK, iteK, notK, bopK, tupK, lstK, iteS, asgK, parK, escE, escL, escI, dem, dem1, getN, binW, addW, mulW, int2, b1W, lenW, tupleW, listW, intW, isiW, ixW, cmpW, wBool, wInt, isNone, asgE, asgT, asgTs, Tg.is, TgL.is, wipeE, fresh, isBox, datas, W.data?, opt_some, opt_none, M.bind_ret, M.bind_stuck, M.nox_ret, itOf, itEnum, itZip, itRev, ownAt, ownL, W.i, W.b, List.map_cons, List.map_nil, List.set, List.getElem?_cons_zero, List.getElem?_cons_succ, List.length_cons, List.length_nil, List.replicate, List.append_nil, List.nil_append, List.cons_append, ite_true, ite_false, Bool.false_eq_true, reduceCtorEq, if_true, if_false, seqK_nx, seqK_rt, seqK_bk, seqK_ct, finK_rt, finK_nx, parE, t_whl, t_pop, M.bind_assoc, seqW, sortedSetW, e0]
theorem sl_drawing_4 {i1 : Nat} {k1 k2 : Int} (hd : SpDraw (applyF fs i1)) (o1 : Odd k1) (o2 : Odd k2) : SlDrawing10 (evD fs gs fu 8 3 (PL_drawing_4 i1 k1 k2)) := .mk fun lo hi h0 h1 h2 => by
  have hc : cap = 100000 := rfl
  rw [d_run 8 3 _ _ rfl]
  simp [PL_drawing_4, v_v, v_non, v_bl, v_int, v_str, v_gl, v_fn, v_tup, v_lst, v_dnew, v_bin, v_neg, v_cmp, v_chain, v_isN, v_notN, v_bop, v_b1, v_b2, v_not, v_ite, v_ix, v_sl, v_call, v_callk, v_callv, v_bi, v_isi, v_comp, itB, escB, l_nil, l_cons, o_nil, o_cons, c_nil', c_cons', i_of', i_rng1', i_rng2', i_enum', i_zip', i_rev', s_nil', s_cons', t_asg, t_par, t_ret, t_retN, t_ite, t_for, t_ex, t_put, t_app, t_ext, t_brk, t_cnt, cmpK, iteK, notK, bopK, tupK, lstK, iteS, asgK, parK, escE, escL, escI, dem, dem1, getN, binW, addW, mulW, int2, b1W, lenW, tupleW, listW, intW, isiW, ixW, cmpW, wBool, wInt, isNone, asgE, asgT, asgTs, Tg.is, TgL.is, wipeE, fresh, isBox, datas, W.data?, opt_some, opt_none, M.bind_ret, M.bind_stuck, M.nox_ret, itOf, itEnum, itZip, itRev, ownAt, ownL, W.i, W.b, List.map_cons, List.map_nil, List.set, List.getElem?_cons_zero, List.getElem?_cons_succ, List.length_cons, List.length_nil, List.replicate, List.append_nil, List.nil_append, List.cons_append, ite_true, ite_false, Bool.false_eq_true, reduceCtorEq, if_true, if_false, seqK_nx, seqK_rt, seqK_bk, seqK_ct, finK_rt, finK_nx, parE, t_whl, t_pop, M.bind_assoc, seqW]
  refine Ok.dr (b := 490) hd (by omega) (by omega) (by omega) fun x x0 x1 => ?_
  obtain ⟨n, hn⟩ : ∃ n, n = lo + x := ⟨_, rfl⟩
  have n1 : 1 ≤ n := by omega
  have n10 : n ≤ 10 := by omega
  have hu := upto_len' n
  simp [v_v, v_non, v_bl, v_int, v_str, v_gl, v_fn, v_tup, v_lst, v_dnew, v_bin, v_neg, v_cmp, v_chain, v_isN, v_notN, v_bop, v_b1, v_b2, v_not, v_ite, v_ix, v_sl, v_call, v_callk, v_callv, v_bi, v_isi, v_comp, itB, escB, l_nil, l_cons, o_nil, o_cons, c_nil', c_cons', i_of', i_rng1', i_rng2', i_enum', i_zip', i_rev', s_nil', s_cons', t_asg, t_par, t_ret, t_retN, t_ite, t_for, t_ex, t_put, t_app, t_ext, t_brk, t_cnt, cmpK, iteK, notK, bopK, tupK, lstK, iteS, asgK, parK, escE, escL, escI, dem, dem1, getN, binW, addW, mulW, int2, b1W, lenW, tupleW, listW, intW, isiW, ixW, cmpW, wBool, wInt, isNone, asgE, asgT, asgTs, Tg.is, TgL.is, wipeE, fresh, isBox, datas, W.data?, opt_some, opt_none, M.bind_ret, M.bind_stuck, M.nox_ret, itOf, itEnum, itZip, itRev, ownAt, ownL, W.i, W.b, List.map_cons, List.map_nil, List.set, List.getElem?_cons_zero, List.getElem?_cons_succ, List.length_cons, List.length_nil, List.replicate, List.append_nil, List.nil_append, List.cons_append, ite_true, ite_false, Bool.false_eq_true, reduceCtorEq, if_true, if_false, seqK_nx, seqK_rt, seqK_bk, seqK_ct, finK_rt, finK_nx, parE, t_whl, t_pop, M.bind_assoc, seqW, ← hn, itRng_up (b := n) (by omega) (by omega)]
  refine Ok.for (b1 := 20) (b2 := 90) (W.d ∘ PyData.int) (Iv4 lo hi n) ⟨[], [], _, ArI.zero n, ArI.zero n, rfl⟩ (fun i x r hx h => turn4 hd o1 o2 (by omega) (upto_get hx).1 (by have := upto_get hx; omega) h) (by omega) fun r ⟨⟨ar, br, c6, hA, hB, hr⟩⟩ => ?_
  subst hr
  have hA := hA.ar (by omega)
  have hB := hB.ar (by omega)
  have cs0 : CsOk n ((br.take 20).map pairC) := ⟨fun c hc => by obtain ⟨p, hp, rfl⟩ := List.mem_map.mp hc; exact pairC_ok (hB.ok p (List.take_subset _ _ hp)), pairC_lex (hB.asc.sublist (List.take_sublist _ _)), by rw [List.length_map, List.length_take]; omega⟩
  refine Ok.of (a := drW n ar ((br.take 20).map pairC)) ?_ ⟨n, ar, _, rfl, ⟨n1, n10, hA, cs0⟩, by omega, by omega⟩
  have hcut : cutD (br.map prD) none (some 20) = (br.take 20).map prD := by
    rw [List.map_take]
    exact cutD_take _ 20
  simp [v_v, v_non, v_bl, v_int, v_str, v_gl, v_fn, v_tup, v_lst, v_dnew, v_bin, v_neg, v_cmp, v_chain, v_isN, v_notN, v_bop, v_b1, v_b2, v_not, v_ite, v_ix, v_sl, v_call, v_callk, v_callv, v_bi, v_isi, v_comp, itB, escB, l_nil, l_cons, o_nil, o_cons, c_nil', c_cons', i_of', i_rng1', i_rng2', i_enum', i_zip', i_rev', s_nil', s_cons', t_asg, t_par, t_ret, t_retN, t_ite, t_for, t_ex, t_put, t_app, t_ext, t_brk, t_cnt, cmpK, iteK, notK, bopK, tupK, lstK, iteS, asgK, parK, escE, escL, escI, dem, dem1, getN, binW, addW, mulW, int2, b1W, lenW, tupleW, listW, intW, isiW, ixW, cmpW, wBool, wInt, isNone, asgE, asgT, asgTs, Tg.is, TgL.is, wipeE, fresh, isBox, datas, W.data?, opt_some, opt_none, M.bind_ret, M.bind_stuck, M.nox_ret, itOf, itEnum, itZip, itRev, ownAt, ownL, W.i, W.b, List.map_cons, List.map_nil, List.set, List.getElem?_cons_zero, List.getElem?_cons_succ, List.length_cons, List.length_nil, List.replicate, List.append_nil, List.nil_append, List.cons_append, ite_true, ite_false, Bool.false_eq_true, reduceCtorEq, if_true, if_false, seqK_nx, seqK_rt, seqK_bk, seqK_ct, finK_rt, finK_nx, parE, t_whl, t_pop, M.bind_assoc, seqW, slW, hcut, drW]
  rfl
end
end DS

set_option Elab.async false
set_option linter.all false
set_option autoImplicit false
set_option maxRecDepth 100000
set_option maxHeartbeats 8000000
namespace DS
open PySem PySem.Spec PySem.SeqAt PyProof.Rows L2
/-! ### loops that fold -/
theorem forR_fold {α S : Type} {fs : Fns} {gs : List W} {fu : Nat} {tg : Tg} {body : SL} (g : α → W) (env : S → Env) (step : S → α → S) : ∀ (I : Nat → S → Prop) {xs : List α} {s : S}, I 0 s →
    (∀ (i : Nat) x, xs[i]? = some x → ∀ s, I i s → ∃ r2, asgT tg (g x) (env s) = some r2 ∧ evSL fs gs fu body r2 = .ret (.nx, env (step s x)) ∧ I (i + 1) (step s x)) →
    forR fs gs fu tg body (env s) (xs.map g) = .ret (.nx, env (xs.foldl step s)) ∧ I xs.length (xs.foldl step s)
  | I, [], s, h0, _ => ⟨rfl, h0⟩
  | I, x :: xs, s, h0, hs => by
    obtain ⟨r2, h1, h2, h3⟩ := hs 0 x rfl s h0
    unfold forR
    rw [List.map_cons, forM_cons]
    simp only [h1, opt_some, M.bind_ret, h2]
    exact forR_fold g env step (fun i => I (i + 1)) h3 fun i y hy => hs (i + 1) y hy
/-- a bind ahead of which a loop folds -/
theorem fold_then {α S β : Type} {fs : Fns} {gs : List W} {fu : Nat} {tg : Tg} {body : SL} (g : α → W) (env : S → Env) (step : S → α → S) (I : Nat → S → Prop) {xs : List α} (s : S) {f : Fl × Env → M β} {m : M β} (h0 : I 0 s)
    (hs : ∀ (i : Nat) x, xs[i]? = some x → ∀ s, I i s → ∃ r2, asgT tg (g x) (env s) = some r2 ∧ evSL fs gs fu body r2 = .ret (.nx, env (step s x)) ∧ I (i + 1) (step s x)) (k : I xs.length (xs.foldl step s) → f (.nx, env (xs.foldl step s)) = m) : (forR fs gs fu tg body (env s) (xs.map g)).bind f = m := by
  obtain ⟨h1, h2⟩ := forR_fold (fs := fs) (gs := gs) (fu := fu) (tg := tg) (body := body) g env step I h0 hs
  rw [h1]
  exact k h2
/-! ### all lots -/
def lotsN : Nat → List (List Int)
  | 0 => [[]]
  | k + 1 => lotsN k ++ (lotsN k).map (· ++ [(k : Int)])
theorem lotsN_len : ∀ k, (lotsN k).length = 2 ^ k
  | 0 => rfl
  | k + 1 => by unfold lotsN; rw [List.length_append, List.length_map, lotsN_len k, Nat.pow_succ]; omega
theorem lotsN_ok : ∀ (k : Nat), ∀ lot ∈ lotsN k, lot.Pairwise (· < ·) ∧ ∀ x ∈ lot, 0 ≤ x ∧ x < (k : Int)
  | 0, lot, h => by
    unfold lotsN at h
    rw [List.mem_singleton.mp h]
    exact ⟨.nil, by simp⟩
  | k + 1, lot, h => by
    unfold lotsN at h
    rcases List.mem_append.mp h with h | h
    · obtain ⟨a, b⟩ := lotsN_ok k lot h
      exact ⟨a, fun x hx => by have := b x hx; omega⟩
    · obtain ⟨l, hl, rfl⟩ := List.mem_map.mp h
      obtain ⟨a, b⟩ := lotsN_ok k l hl
      refine ⟨List.pairwise_append.mpr ⟨a, by simp, fun x hx y hy => ?_⟩, fun x hx => ?_⟩
      · rw [List.mem_singleton.mp hy]; exact (b x hx).2
      · rcases List.mem_append.mp hx with hx | hx
        · have := b x hx; omega
        · rw [List.mem_singleton.mp hx]; omega
def lotS (f : List (List Int)) (s : Int) : List (List Int) := f ++ f.map (· ++ [s])
theorem lotS_fold (k : Nat) : ((List.range k).map fun i : Nat => (i : Int)).foldl lotS [[]] = lotsN k := by
  induction k with
  | zero => rfl
  | succ k ih =>
    rw [List.range_succ, List.map_append, List.foldl_append, ih]
    rfl
theorem lots_set {n : Int} (h0 : 1 ≤ n) (h1 : n ≤ 100) {lot : List Int} (h : lot ∈ lotsN n.toNat) : SetOk (n - 1) lot := by
  obtain ⟨a, b⟩ := lotsN_ok _ _ h
  have b' : ∀ x ∈ lot, 0 ≤ x ∧ x ≤ n - 1 := fun x hx => by have := b x hx; omega
  refine ⟨b', a, ?_⟩
  have := nodup_sub_len (asc_nodup' a) (fun x hx => upto_mem'.mpr (by have := b' x hx; omega) : ∀ x ∈ lot, x ∈ upto n)
  have := upto_len' n
  show _ ≤ 100000
  omega
def SlLots1 (F : Fn1) : Prop := ∀ (lot : List Int) (w : W), (w = tI lot ∨ w = .d (.list (lot.map PyData.int))) → lot.length ≤ 10 → F [w] = .ret (.d (.list ((lot.foldl lotS [[]]).map csD)))
def SlLots2 (F : Fn1) : Prop := ∀ n : Int, 0 ≤ n → n ≤ 10 → F [.i n] = .ret (.d (.list ((lotsN n.toNat).map csD)))
section
variable {fs : Fns} {gs : List W} {fu : Nat}
theorem lots_len : ∀ (xs : List Int) (f : List (List Int)), (xs.foldl lotS f).length = f.length * 2 ^ xs.length
  | [], f => by simp
  | x :: xs, f => by
    rw [List.foldl_cons, lots_len xs, lotS, List.length_append, List.length_map, List.length_cons, Nat.pow_succ, ← Nat.two_mul, Nat.mul_comm 2, Nat.mul_assoc, Nat.mul_comm 2]
end
/-! ### rooms -/
structure Shut (cs : List (List Int)) (lot left : List Int) : Prop where
  sub : left.Sublist lot
  cl : ∀ y ∈ left, ∀ z ∈ lot, linkB cs y z = true → z ∈ left
theorem Shut.conn {cs : List (List Int)} {lot left : List Int} {x y : Int} (h : Shut cs lot left) (hx : x ∈ left) (c : Conn cs lot x y) : Conn cs left x y ∧ y ∈ left := by
  induction c with
  | refl => exact ⟨.refl, hx⟩
  | step _ h2 h3 ih =>
    have hz := h.cl _ ih.2 _ h2 h3
    exact ⟨.step ih.1 hz h3, hz⟩
theorem Shut.room {cs : List (List Int)} {lot left : List Int} {x : Int} (h : Shut cs lot left) (ha : lot.Pairwise (· < ·)) (hx : x ∈ left) : roomL cs left x = roomL cs lot x :=
  asc_uniqI (roomL_asc (ha.sublist h.sub)) (roomL_asc ha) fun y => by
    rw [mem_roomL, mem_roomL]
    exact ⟨fun ⟨a, b⟩ => ⟨h.sub.subset a, b.mono (fun z hz => h.sub.subset hz) fun _ _ z => z⟩, fun ⟨a, b⟩ => ⟨(h.conn hx b).2, (h.conn hx b).1⟩⟩
theorem Shut.self {cs : List (List Int)} {lot : List Int} : Shut cs lot lot := ⟨List.Sublist.refl _, fun _ _ _ h _ => h⟩
theorem Shut.rest {cs : List (List Int)} {lot left : List Int} {x : Int} (h : Shut cs lot left) (hx : x ∈ left) : Shut cs lot (left.filter fun y => decide (y ∉ roomL cs left x)) := by
  refine ⟨List.filter_sublist.trans h.sub, fun y hy z hz hl => ?_⟩
  obtain ⟨hy, h2⟩ := List.mem_filter.mp hy
  have hzl := h.cl y hy z hz hl
  refine List.mem_filter.mpr ⟨hzl, ?_⟩
  simp at h2 ⊢
  intro hc
  exact h2 (mem_roomL.mpr ⟨hy, .step (mem_roomL.mp hc).2 hy (linkB_symm hl)⟩)
structure RoomsOk (cs : List (List Int)) (lot left : List Int) (rs : List (List Int)) : Prop where
  all : ∀ r ∈ rs, ∃ x ∈ left, r = roomL cs lot x
  cov : ∀ x ∈ left, ∃ r ∈ rs, x ∈ r
  sub : ∀ r ∈ rs, ∀ x ∈ r, x ∈ left
  dis : rs.Pairwise fun a b => ∀ x ∈ a, x ∉ b
theorem roomsF_ok {cs : List (List Int)} {lot : List Int} (ha : lot.Pairwise (· < ·)) : ∀ (k : Nat) (left : List Int), left.length ≤ k → Shut cs lot left → RoomsOk cs lot left (roomsF cs k left)
  | 0, left, hk, h => by
    have : left = [] := List.length_eq_zero_iff.mp (by omega)
    subst this
    exact ⟨by simp [roomsF], by simp, by simp [roomsF], by simp [roomsF]⟩
  | k + 1, [], hk, h => ⟨by simp [roomsF], by simp, by simp [roomsF], by simp [roomsF]⟩
  | k + 1, x :: xs, hk, h => by
    have hl := rest_len (cs := cs) (x := x) (xs := xs)
    rw [List.length_cons] at hk
    have ih := roomsF_ok ha k _ (by omega) (h.rest List.mem_cons_self)
    have hr := h.room ha (x := x) List.mem_cons_self
    unfold roomsF
    generalize hR : roomL cs (x :: xs) x = R at *
    have hm : ∀ y ∈ R, y ∈ x :: xs := fun y hy => by rw [← hR] at hy; exact (mem_roomL.mp hy).1
    refine ⟨fun r hr2 => ?_, fun y hy => ?_, fun r hr2 y hy => ?_, List.pairwise_cons.mpr ⟨fun r hr2 y hy hy2 => ?_, ih.dis⟩⟩
    · rcases List.mem_cons.mp hr2 with rfl | h2
      · exact ⟨x, List.mem_cons_self, hr⟩
      · obtain ⟨z, hz, e⟩ := ih.all r h2
        exact ⟨z, (List.mem_filter.mp hz).1, e⟩
    · by_cases q : y ∈ R
      · exact ⟨R, List.mem_cons_self, q⟩
      · obtain ⟨r, a, b⟩ := ih.cov y (List.mem_filter.mpr ⟨hy, by simp [q]⟩)
        exact ⟨r, List.mem_cons_of_mem _ a, b⟩
    · rcases List.mem_cons.mp hr2 with rfl | h2
      · exact hm y hy
      · exact (List.mem_filter.mp (ih.sub r h2 y hy)).1
    · have := (List.mem_filter.mp (ih.sub r hr2 y hy2)).2
      simp at this
      exact this hy
theorem roomsL_ok {cs : List (List Int)} {lot : List Int} (ha : lot.Pairwise (· < ·)) : RoomsOk cs lot lot (roomsL cs lot) := roomsF_ok ha _ _ (Nat.le_refl _) .self
/-- the law's own way -/
noncomputable def gF (cs : List (List Int)) (lot : List Int) (found : List (List Int)) (s : Int) : List (List Int) := if found.any (fun r => decide (s ∈ r)) then found else found ++ [roomL cs lot s]
structure GfI (cs : List (List Int)) (lot ss : List Int) (found : List (List Int)) : Prop where
  all : ∀ r ∈ found, ∃ x ∈ lot, r = roomL cs lot x
  cov : ∀ y ∈ lot, y ∈ ss ∨ ∃ r ∈ found, y ∈ r
  sub : ss.Sublist lot
theorem fold_rooms {cs : List (List Int)} {lot : List Int} (ha : lot.Pairwise (· < ·)) : ∀ (ss : List Int) (found : List (List Int)), GfI cs lot ss found → ss.foldl (gF cs lot) found = found ++ roomsL cs (ss.filter fun y => !found.any fun r => decide (y ∈ r))
  | [], found, _ => by simp [roomsL_nil]
  | s :: ss, found, I => by
    rw [List.foldl_cons]
    cases q : found.any fun r => decide (s ∈ r) with
    | true =>
      have e : gF cs lot found s = found := by unfold gF; rw [if_pos q]
      rw [e, fold_rooms ha ss found ⟨I.all, fun y hy => ?_, (List.sublist_cons_self _ _).trans I.sub⟩, List.filter_cons]
      · simp [q]
      · rcases I.cov y hy with h | h
        · rcases List.mem_cons.mp h with rfl | h
          · obtain ⟨r, hr, z⟩ := List.any_eq_true.mp q
            exact .inr ⟨r, hr, of_decide_eq_true z⟩
          · exact .inl h
        · exact .inr h
    | false =>
      have e : gF cs lot found s = found ++ [roomL cs lot s] := by unfold gF; rw [if_neg (by rw [q]; simp)]
      have hsl : s ∈ lot := I.sub.subset List.mem_cons_self
      have hsR : s ∈ roomL cs lot s := mem_roomL.mpr ⟨hsl, .refl⟩
      have hL : ((s :: ss).filter fun y => !found.any fun r => decide (y ∈ r)) = s :: ss.filter fun y => !found.any fun r => decide (y ∈ r) := by rw [List.filter_cons]; simp [q]
      have sh : Shut cs lot ((s :: ss).filter fun y => !found.any fun r => decide (y ∈ r)) := by
        refine ⟨List.filter_sublist.trans I.sub, fun y hy z hz hl => ?_⟩
        obtain ⟨h1, h2⟩ := List.mem_filter.mp hy
        have hn : ¬ ∃ r ∈ found, z ∈ r := by
          rintro ⟨r, hr, hzr⟩
          obtain ⟨x, hx, rfl⟩ := I.all r hr
          have : y ∈ roomL cs lot x := mem_roomL.mpr ⟨I.sub.subset h1, .step (mem_roomL.mp hzr).2 (I.sub.subset h1) (linkB_symm hl)⟩
          simp at h2
          exact h2 _ hr this
        refine List.mem_filter.mpr ⟨(I.cov z hz).resolve_right hn, ?_⟩
        simp
        exact fun r hr hzr => hn ⟨r, hr, hzr⟩
      rw [e, fold_rooms ha ss _ ⟨fun r hr => ?_, fun y hy => ?_, (List.sublist_cons_self _ _).trans I.sub⟩]
      · rw [hL] at sh ⊢
        rw [roomsL_cons, sh.room ha List.mem_cons_self, List.append_assoc, List.singleton_append, List.filter_cons]
        simp [hsR, List.filter_filter, Bool.and_comm]
      · rcases List.mem_append.mp hr with h | h
        · exact I.all r h
        · rw [List.mem_singleton.mp h]; exact ⟨s, hsl, rfl⟩
      · rcases I.cov y hy with h | ⟨r, hr, h⟩
        · rcases List.mem_cons.mp h with rfl | h
          · exact .inr ⟨_, List.mem_append_right _ (List.mem_singleton.mpr rfl), hsR⟩
          · exact .inl h
        · exact .inr ⟨r, List.mem_append_left _ hr, h⟩
theorem fold_rooms_all {cs : List (List Int)} {lot : List Int} (ha : lot.Pairwise (· < ·)) : lot.foldl (gF cs lot) [] = roomsL cs lot := by
  rw [fold_rooms ha lot [] ⟨by simp, fun y hy => .inl hy, List.Sublist.refl _⟩]
  simp
  exact congrArg _ (List.filter_eq_self.mpr fun _ _ => rfl)
/-! ### the law's own way to a room -/
def cmS (lot found c : List Int) : List Int := if c.any (fun y => decide (y ∈ found)) then found ++ c.filter (fun y => decide (y ∈ lot) && decide (y ∉ found)) else found
def cmT (cs : List (List Int)) (lot found : List Int) : List Int := cs.foldl (cmS lot) found
structure CmI (cs : List (List Int)) (lot : List Int) (x : Int) (found : List Int) : Prop where
  nd : found.Nodup
  st : x ∈ found
  ok : ∀ y ∈ found, y ∈ lot ∧ Conn cs lot x y
theorem cmS_pre (lot found c : List Int) : found.length ≤ (cmS lot found c).length ∧ ∀ y ∈ found, y ∈ cmS lot found c := by
  unfold cmS
  split
  · exact ⟨by simp, fun y hy => List.mem_append_left _ hy⟩
  · exact ⟨Nat.le_refl _, fun y hy => hy⟩
theorem cmS_ok {cs : List (List Int)} {lot found c : List Int} {x : Int} (I : CmI cs lot x found) (hc : c ∈ cs) (hn : c.Nodup) : CmI cs lot x (cmS lot found c) := by
  unfold cmS
  split
  · rename_i h
    obtain ⟨y, hy, hf⟩ := List.any_eq_true.mp h
    have hf := of_decide_eq_true hf
    refine ⟨List.nodup_append.mpr ⟨I.nd, hn.sublist List.filter_sublist, fun a ha b hb e => ?_⟩, List.mem_append_left _ I.st, fun z hz => ?_⟩
    · subst e
      have := (List.mem_filter.mp hb).2
      simp at this
      exact this.2 ha
    · rcases List.mem_append.mp hz with h | h
      · exact I.ok z h
      · obtain ⟨h1, h2⟩ := List.mem_filter.mp h
        simp at h2
        refine ⟨h2.1, .step (I.ok y hf).2 h2.1 ?_⟩
        unfold linkB
        exact List.any_eq_true.mpr ⟨c, hc, by simp [hy, h1]⟩
  · exact I
theorem cmS_same {lot found c : List Int} (h : (cmS lot found c).length = found.length) : cmS lot found c = found ∧ ((∃ y ∈ c, y ∈ found) → ∀ z ∈ c, z ∈ lot → z ∈ found) := by
  unfold cmS at h ⊢
  split
  · rename_i hq
    rw [if_pos hq, List.length_append] at h
    have : c.filter (fun y => decide (y ∈ lot) && decide (y ∉ found)) = [] := List.length_eq_zero_iff.mp (by omega)
    refine ⟨by rw [this, List.append_nil], fun _ z hz hl => ?_⟩
    rw [List.filter_eq_nil_iff] at this
    have := this z hz
    simp [hl] at this
    exact this
  · rename_i hq
    refine ⟨rfl, fun ⟨y, hy, hf⟩ => absurd (List.any_eq_true.mpr ⟨y, hy, decide_eq_true hf⟩) hq⟩
theorem cmT_ok {cs : List (List Int)} {lot : List Int} {x : Int} (hn : ∀ c ∈ cs, c.Nodup) : ∀ (ds : List (List Int)) (found : List Int), (∀ c ∈ ds, c ∈ cs) → CmI cs lot x found → CmI cs lot x (ds.foldl (cmS lot) found)
  | [], _, _, I => I
  | d :: ds, found, h, I => cmT_ok hn ds _ (fun c hc => h c (List.mem_cons_of_mem _ hc)) (cmS_ok I (h d List.mem_cons_self) (hn d (h d List.mem_cons_self)))
theorem cmT_same {lot : List Int} : ∀ (ds : List (List Int)) (found : List Int), found.length ≤ (ds.foldl (cmS lot) found).length ∧ ((ds.foldl (cmS lot) found).length = found.length → ds.foldl (cmS lot) found = found ∧ ∀ c ∈ ds, (∃ y ∈ c, y ∈ found) → ∀ z ∈ c, z ∈ lot → z ∈ found)
  | [], found => ⟨Nat.le_refl _, fun _ => ⟨rfl, by simp⟩⟩
  | d :: ds, found => by
    have h1 := (cmS_pre lot found d).1
    obtain ⟨h2, h3⟩ := cmT_same (lot := lot) ds (cmS lot found d)
    rw [List.foldl_cons]
    refine ⟨by omega, fun h => ?_⟩
    obtain ⟨e, h4⟩ := cmS_same (lot := lot) (found := found) (c := d) (by omega)
    obtain ⟨h5, h6⟩ := h3 (by omega)
    rw [e] at h5 h6 ⊢
    exact ⟨h5, fun c hc => by
      rcases List.mem_cons.mp hc with rfl | hc
      · exact h4
      · exact h6 c hc⟩
structure CmJ (cs : List (List Int)) (lot : List Int) (x : Int) (i : Nat) (found : List Int) : Prop where
  ok : CmI cs lot x found
  far : i < found.length ∨ ∀ c ∈ cs, (∃ y ∈ c, y ∈ found) → ∀ z ∈ c, z ∈ lot → z ∈ found
theorem cm_next {cs : List (List Int)} {lot found : List Int} {x : Int} {i : Nat} (hn : ∀ c ∈ cs, c.Nodup) (J : CmJ cs lot x i found) : CmJ cs lot x (i + 1) (cmT cs lot found) := by
  unfold cmT
  refine ⟨cmT_ok hn cs found (fun _ h => h) J.ok, ?_⟩
  obtain ⟨h1, h2⟩ := cmT_same (lot := lot) cs found
  by_cases q : (cs.foldl (cmS lot) found).length = found.length
  · obtain ⟨e, h3⟩ := h2 q
    rw [e]
    exact .inr h3
  · rcases J.far with h | h
    · exact .inl (by omega)
    · exfalso
      apply q
      have : ∀ (ds : List (List Int)), (∀ c ∈ ds, c ∈ cs) → ds.foldl (cmS lot) found = found := fun ds => by
        induction ds with
        | nil => exact fun _ => rfl
        | cons d ds ih =>
          intro hd
          have e : cmS lot found d = found := by
            unfold cmS
            split
            · rename_i hq
              obtain ⟨y, hy, hf⟩ := List.any_eq_true.mp hq
              rw [List.filter_eq_nil_iff.mpr, List.append_nil]
              intro z hz
              simp
              exact fun hl => h d (hd d List.mem_cons_self) ⟨y, hy, of_decide_eq_true hf⟩ z hz hl
            · rfl
          rw [List.foldl_cons, e]
          exact ih fun c hc => hd c (List.mem_cons_of_mem _ hc)
      rw [this cs fun _ h => h]
theorem cm_iter {cs : List (List Int)} {lot : List Int} {x : Int} (hn : ∀ c ∈ cs, c.Nodup) : ∀ (ss : List Int) (i : Nat) (found : List Int), CmJ cs lot x i found → CmJ cs lot x (i + ss.length) (ss.foldl (fun f _ => cmT cs lot f) found)
  | [], i, found, J => J
  | s :: ss, i, found, J => by
    have := cm_iter hn ss (i + 1) _ (cm_next hn J)
    rw [List.foldl_cons, List.length_cons]
    rw [show i + (ss.length + 1) = i + 1 + ss.length by omega]
    exact this
theorem cm_end {cs : List (List Int)} {lot f : List Int} {x y : Int} (hx : x ∈ f) (hcl : ∀ c ∈ cs, (∃ y ∈ c, y ∈ f) → ∀ z ∈ c, z ∈ lot → z ∈ f) (h : Conn cs lot x y) : y ∈ f := by
  induction h with
  | refl => exact hx
  | step _ h2 h3 ih =>
    obtain ⟨c, hc, hq⟩ := List.any_eq_true.mp h3
    simp at hq
    exact hcl c hc ⟨_, hq.1, ih⟩ _ hq.2 h2
theorem cm_room {cs : List (List Int)} {lot : List Int} {x : Int} (hn : ∀ c ∈ cs, c.Nodup) (ha : lot.Pairwise (· < ·)) (hx : x ∈ lot) : sortI (lot.foldl (fun f _ => cmT cs lot f) [x]) = roomL cs lot x ∧ (lot.foldl (fun f _ => cmT cs lot f) [x]).length ≤ lot.length := by
  have J0 : CmJ cs lot x 0 [x] := ⟨⟨by simp, by simp, fun y hy => by rw [List.mem_singleton.mp hy]; exact ⟨hx, .refl⟩⟩, .inl (by simp)⟩
  have J := cm_iter (lot := lot) hn lot 0 [x] J0
  generalize lot.foldl (fun f _ => cmT cs lot f) [x] = f at *
  have hle : f.length ≤ lot.length := nodup_sub_len J.ok.nd fun y hy => (J.ok.ok y hy).1
  refine ⟨asc_uniqI (sortI_strict J.ok.nd) (roomL_asc ha) fun y => ?_, hle⟩
  rw [(sortI_perm f).mem_iff, mem_roomL]
  refine ⟨fun h => J.ok.ok y h, fun ⟨_, hc⟩ => ?_⟩
  exact cm_end J.ok.st (J.far.resolve_left (by omega)) hc
end DS

set_option Elab.async false
set_option linter.all false
set_option autoImplicit false
set_option maxRecDepth 100000
set_option maxHeartbeats 8000000
namespace DS
open PySem PySem.Spec PySem.SeqAt PyProof.Rows L2
section
variable {fs : Fns} {gs : List W} {fu : Nat}
def ltEnv (a : W) (s : List (List Int) × C) : Env := [.sh a, .ow (.d (.list (s.1.map csD))), s.2, .no]
def ltS (s : List (List Int) × C) (x : Int) : List (List Int) × C := (lotS s.1 x, .sh (.d (.int x)))
theorem ltS_fst : ∀ (xs : List Int) (s : List (List Int) × C), (xs.foldl ltS s).1 = xs.foldl lotS s.1
  | [], s => rfl
  | x :: xs, s => by rw [List.foldl_cons, List.foldl_cons, ltS_fst]; rfl
theorem lt_step {a : W} {x : Int} {s : List (List Int) × C} (h : s.1.length ≤ 40000) (hl : ∀ l ∈ s.1, l.length ≤ 40000) : evSL fs gs fu (.cons (.asg (.n 1) (.bin .add (.v 1) (.comp (.n 3) (.of (.v 1)) .nil (.bin .add (.v 3) (.tup (.cons (.v 2) .nil)))))) .nil) [.sh a, .ow (.d (.list (s.1.map csD))), .sh (.d (.int x)), .no] = .ret (.nx, ltEnv a (ltS s x)) := by
  have hc : cap = 100000 := rfl
  obtain ⟨f, c⟩ := s
  simp only at h hl
  have q : f.length + f.length ≤ cap := by omega
  simp [v_v, v_non, v_bl, v_int, v_str, v_gl, v_fn, v_tup, v_lst, v_dnew, v_bin, v_neg, v_cmp, v_chain, v_isN, v_notN, v_bop, v_b1, v_b2, v_not, v_ite, v_ix, v_sl, v_call, v_callk, v_callv, v_bi, v_isi, v_comp, itB, escB, l_nil, l_cons, o_nil, o_cons, c_nil', c_cons', i_of', i_rng1', i_rng2', i_enum', i_zip', i_rev', s_nil', s_cons', t_asg, t_par, t_ret, t_retN, t_ite, t_for, t_ex, t_put, t_app, t_ext, t_brk, t_cnt, cmpK, iteK, notK, bopK, tupK, lstK, iteS, asgK, parK, escE, escL, escI, dem, dem1, getN, binW, addW, mulW, int2, b1W, lenW, tupleW, listW, intW, isiW, ixW, cmpW, wBool, wInt, isNone, asgE, asgT, asgTs, Tg.is, TgL.is, wipeE, fresh, isBox, datas, W.data?, opt_some, opt_none, M.bind_ret, M.bind_stuck, M.nox_ret, itOf, itEnum, itZip, itRev, ownAt, ownL, W.i, W.b, List.map_cons, List.map_nil, List.set, List.getElem?_cons_zero, List.getElem?_cons_succ, List.length_cons, List.length_nil, List.replicate, List.append_nil, List.nil_append, List.cons_append, ite_true, ite_false, Bool.false_eq_true, reduceCtorEq, if_true, if_false, seqK_nx, seqK_rt, seqK_bk, seqK_ct, finK_rt, finK_nx, parE, t_whl, t_pop, M.bind_assoc, seqW]
  refine (M.bind_eq (compR_all (W.d ∘ csD) (fun l => csD (l ++ [x])) (by omega) fun y hy => by
    have q2 : y.length + 1 ≤ cap := by have := hl y hy; omega
    simp [stepC, v_v, v_non, v_bl, v_int, v_str, v_gl, v_fn, v_tup, v_lst, v_dnew, v_bin, v_neg, v_cmp, v_chain, v_isN, v_notN, v_bop, v_b1, v_b2, v_not, v_ite, v_ix, v_sl, v_call, v_callk, v_callv, v_bi, v_isi, v_comp, itB, escB, l_nil, l_cons, o_nil, o_cons, c_nil', c_cons', i_of', i_rng1', i_rng2', i_enum', i_zip', i_rev', s_nil', s_cons', t_asg, t_par, t_ret, t_retN, t_ite, t_for, t_ex, t_put, t_app, t_ext, t_brk, t_cnt, cmpK, iteK, notK, bopK, tupK, lstK, iteS, asgK, parK, escE, escL, escI, dem, dem1, getN, binW, addW, mulW, int2, b1W, lenW, tupleW, listW, intW, isiW, ixW, cmpW, wBool, wInt, isNone, asgE, asgT, asgTs, Tg.is, TgL.is, wipeE, fresh, isBox, datas, W.data?, opt_some, opt_none, M.bind_ret, M.bind_stuck, M.nox_ret, itOf, itEnum, itZip, itRev, ownAt, ownL, W.i, W.b, List.map_cons, List.map_nil, List.set, List.getElem?_cons_zero, List.getElem?_cons_succ, List.length_cons, List.length_nil, List.replicate, List.append_nil, List.nil_append, List.cons_append, ite_true, ite_false, Bool.false_eq_true, reduceCtorEq, if_true, if_false, seqK_nx, seqK_rt, seqK_bk, seqK_ct, finK_rt, finK_nx, parE, t_whl, t_pop, M.bind_assoc, seqW, csD, q2])).trans ?_
  simp [v_v, v_non, v_bl, v_int, v_str, v_gl, v_fn, v_tup, v_lst, v_dnew, v_bin, v_neg, v_cmp, v_chain, v_isN, v_notN, v_bop, v_b1, v_b2, v_not, v_ite, v_ix, v_sl, v_call, v_callk, v_callv, v_bi, v_isi, v_comp, itB, escB, l_nil, l_cons, o_nil, o_cons, c_nil', c_cons', i_of', i_rng1', i_rng2', i_enum', i_zip', i_rev', s_nil', s_cons', t_asg, t_par, t_ret, t_retN, t_ite, t_for, t_ex, t_put, t_app, t_ext, t_brk, t_cnt, cmpK, iteK, notK, bopK, tupK, lstK, iteS, asgK, parK, escE, escL, escI, dem, dem1, getN, binW, addW, mulW, int2, b1W, lenW, tupleW, listW, intW, isiW, ixW, cmpW, wBool, wInt, isNone, asgE, asgT, asgTs, Tg.is, TgL.is, wipeE, fresh, isBox, datas, W.data?, opt_some, opt_none, M.bind_ret, M.bind_stuck, M.nox_ret, itOf, itEnum, itZip, itRev, ownAt, ownL, W.i, W.b, List.map_cons, List.map_nil, List.set, List.getElem?_cons_zero, List.getElem?_cons_succ, List.length_cons, List.length_nil, List.replicate, List.append_nil, List.nil_append, List.cons_append, ite_true, ite_false, Bool.false_eq_true, reduceCtorEq, if_true, if_false, seqK_nx, seqK_rt, seqK_bk, seqK_ct, finK_rt, finK_nx, parE, t_whl, t_pop, M.bind_assoc, seqW, ltEnv, ltS, lotS, q]
structure LtI (i : Nat) (s : List (List Int) × C) : Prop where
  le : s.1.length = 2 ^ i
  few : ∀ l ∈ s.1, l.length ≤ i
theorem lt_next {i : Nat} {s : List (List Int) × C} (x : Int) (h : LtI i s) : LtI (i + 1) (ltS s x) := by
  refine ⟨?_, fun l hl => ?_⟩
  · show (lotS s.1 x).length = _
    unfold lotS
    rw [List.length_append, List.length_map, h.le, Nat.pow_succ]
    omega
  · rcases List.mem_append.mp (show l ∈ s.1 ++ s.1.map (· ++ [x]) from hl) with h1 | h1
    · have := h.few l h1; omega
    · obtain ⟨m, hm, rfl⟩ := List.mem_map.mp h1
      have := h.few m hm
      rw [List.length_append, List.length_singleton]
      omega
theorem lt_loop {a : W} {xs : List Int} (hx : xs.length ≤ 10) {c2 : C} {β : Type} {f : Fl × Env → M β} {m : M β} (k : ∀ c, f (.nx, [.sh a, .ow (.d (.list ((xs.foldl lotS [[]]).map csD))), c, .no]) = m) :
    (forR fs gs fu (.n 2) (.cons (.asg (.n 1) (.bin .add (.v 1) (.comp (.n 3) (.of (.v 1)) .nil (.bin .add (.v 3) (.tup (.cons (.v 2) .nil)))))) .nil) [.sh a, .ow (.d (.list [.tuple []])), c2, .no] (xs.map (W.d ∘ PyData.int))).bind f = m := by
  refine fold_then (W.d ∘ PyData.int) (ltEnv a) ltS LtI ([[]], c2) ⟨rfl, by simp⟩ (fun i x hi s I => ?_) fun I => ?_
  · have hi := get_lt' hi
    have := I.le
    have : (2 : Nat) ^ i ≤ 2 ^ 10 := Nat.pow_le_pow_right (by omega) (by omega)
    refine ⟨[.sh a, .ow (.d (.list (s.1.map csD))), .sh (.d (.int x)), .no], rfl, ?_, lt_next x I⟩
    exact lt_step (by omega) fun l hl => by have := I.few l hl; omega
  · have := k (xs.foldl ltS ([[]], c2)).2
    unfold ltEnv
    rw [ltS_fst]
    exact this
theorem sl_lots_1 : SlLots1 (evD fs gs fu 4 1 PL_lots_1) := fun lot w hw hl => by
  have hc : cap = 100000 := rfl
  rw [d_run 4 1 _ _ rfl]
  rcases hw with rfl | rfl <;> (
  simp [PL_lots_1, v_v, v_non, v_bl, v_int, v_str, v_gl, v_fn, v_tup, v_lst, v_dnew, v_bin, v_neg, v_cmp, v_chain, v_isN, v_notN, v_bop, v_b1, v_b2, v_not, v_ite, v_ix, v_sl, v_call, v_callk, v_callv, v_bi, v_isi, v_comp, itB, escB, l_nil, l_cons, o_nil, o_cons, c_nil', c_cons', i_of', i_rng1', i_rng2', i_enum', i_zip', i_rev', s_nil', s_cons', t_asg, t_par, t_ret, t_retN, t_ite, t_for, t_ex, t_put, t_app, t_ext, t_brk, t_cnt, cmpK, iteK, notK, bopK, tupK, lstK, iteS, asgK, parK, escE, escL, escI, dem, dem1, getN, binW, addW, mulW, int2, b1W, lenW, tupleW, listW, intW, isiW, ixW, cmpW, wBool, wInt, isNone, asgE, asgT, asgTs, Tg.is, TgL.is, wipeE, fresh, isBox, datas, W.data?, opt_some, opt_none, M.bind_ret, M.bind_stuck, M.nox_ret, itOf, itEnum, itZip, itRev, ownAt, ownL, W.i, W.b, List.map_cons, List.map_nil, List.set, List.getElem?_cons_zero, List.getElem?_cons_succ, List.length_cons, List.length_nil, List.replicate, List.append_nil, List.nil_append, List.cons_append, ite_true, ite_false, Bool.false_eq_true, reduceCtorEq, if_true, if_false, seqK_nx, seqK_rt, seqK_bk, seqK_ct, finK_rt, finK_nx, parE, t_whl, t_pop, M.bind_assoc, seqW]
  refine lt_loop hl fun c => ?_
  simp [v_v, v_non, v_bl, v_int, v_str, v_gl, v_fn, v_tup, v_lst, v_dnew, v_bin, v_neg, v_cmp, v_chain, v_isN, v_notN, v_bop, v_b1, v_b2, v_not, v_ite, v_ix, v_sl, v_call, v_callk, v_callv, v_bi, v_isi, v_comp, itB, escB, l_nil, l_cons, o_nil, o_cons, c_nil', c_cons', i_of', i_rng1', i_rng2', i_enum', i_zip', i_rev', s_nil', s_cons', t_asg, t_par, t_ret, t_retN, t_ite, t_for, t_ex, t_put, t_app, t_ext, t_brk, t_cnt, cmpK, iteK, notK, bopK, tupK, lstK, iteS, asgK, parK, escE, escL, escI, dem, dem1, getN, binW, addW, mulW, int2, b1W, lenW, tupleW, listW, intW, isiW, ixW, cmpW, wBool, wInt, isNone, asgE, asgT, asgTs, Tg.is, TgL.is, wipeE, fresh, isBox, datas, W.data?, opt_some, opt_none, M.bind_ret, M.bind_stuck, M.nox_ret, itOf, itEnum, itZip, itRev, ownAt, ownL, W.i, W.b, List.map_cons, List.map_nil, List.set, List.getElem?_cons_zero, List.getElem?_cons_succ, List.length_cons, List.length_nil, List.replicate, List.append_nil, List.nil_append, List.cons_append, ite_true, ite_false, Bool.false_eq_true, reduceCtorEq, if_true, if_false, seqK_nx, seqK_rt, seqK_bk, seqK_ct, finK_rt, finK_nx, parE, t_whl, t_pop, M.bind_assoc, seqW])
theorem sl_lots_2 : SlLots2 (evD fs gs fu 4 1 PL_lots_2) := fun n h0 h1 => by
  have hc : cap = 100000 := rfl
  have hu := upto_len' n
  have e : (upto n).foldl lotS [[]] = lotsN n.toNat := lotS_fold n.toNat
  rw [d_run 4 1 _ _ rfl]
  simp [PL_lots_2, v_v, v_non, v_bl, v_int, v_str, v_gl, v_fn, v_tup, v_lst, v_dnew, v_bin, v_neg, v_cmp, v_chain, v_isN, v_notN, v_bop, v_b1, v_b2, v_not, v_ite, v_ix, v_sl, v_call, v_callk, v_callv, v_bi, v_isi, v_comp, itB, escB, l_nil, l_cons, o_nil, o_cons, c_nil', c_cons', i_of', i_rng1', i_rng2', i_enum', i_zip', i_rev', s_nil', s_cons', t_asg, t_par, t_ret, t_retN, t_ite, t_for, t_ex, t_put, t_app, t_ext, t_brk, t_cnt, cmpK, iteK, notK, bopK, tupK, lstK, iteS, asgK, parK, escE, escL, escI, dem, dem1, getN, binW, addW, mulW, int2, b1W, lenW, tupleW, listW, intW, isiW, ixW, cmpW, wBool, wInt, isNone, asgE, asgT, asgTs, Tg.is, TgL.is, wipeE, fresh, isBox, datas, W.data?, opt_some, opt_none, M.bind_ret, M.bind_stuck, M.nox_ret, itOf, itEnum, itZip, itRev, ownAt, ownL, W.i, W.b, List.map_cons, List.map_nil, List.set, List.getElem?_cons_zero, List.getElem?_cons_succ, List.length_cons, List.length_nil, List.replicate, List.append_nil, List.nil_append, List.cons_append, ite_true, ite_false, Bool.false_eq_true, reduceCtorEq, if_true, if_false, seqK_nx, seqK_rt, seqK_bk, seqK_ct, finK_rt, finK_nx, parE, t_whl, t_pop, M.bind_assoc, seqW, itRng_up (b := n) (by omega) (by omega)]
  refine lt_loop (by omega) fun c => ?_
  rw [e]
  simp [v_v, v_non, v_bl, v_int, v_str, v_gl, v_fn, v_tup, v_lst, v_dnew, v_bin, v_neg, v_cmp, v_chain, v_isN, v_notN, v_bop, v_b1, v_b2, v_not, v_ite, v_ix, v_sl, v_call, v_callk, v_callv, v_bi, v_isi, v_comp, itB, escB, l_nil, l_cons, o_nil, o_cons, c_nil', c_cons', i_of', i_rng1', i_rng2', i_enum', i_zip', i_rev', s_nil', s_cons', t_asg, t_par, t_ret, t_retN, t_ite, t_for, t_ex, t_put, t_app, t_ext, t_brk, t_cnt, cmpK, iteK, notK, bopK, tupK, lstK, iteS, asgK, parK, escE, escL, escI, dem, dem1, getN, binW, addW, mulW, int2, b1W, lenW, tupleW, listW, intW, isiW, ixW, cmpW, wBool, wInt, isNone, asgE, asgT, asgTs, Tg.is, TgL.is, wipeE, fresh, isBox, datas, W.data?, opt_some, opt_none, M.bind_ret, M.bind_stuck, M.nox_ret, itOf, itEnum, itZip, itRev, ownAt, ownL, W.i, W.b, List.map_cons, List.map_nil, List.set, List.getElem?_cons_zero, List.getElem?_cons_succ, List.length_cons, List.length_nil, List.replicate, List.append_nil, List.nil_append, List.cons_append, ite_true, ite_false, Bool.false_eq_true, reduceCtorEq, if_true, if_false, seqK_nx, seqK_rt, seqK_bk, seqK_ct, finK_rt, finK_nx, parE, t_whl, t_pop, M.bind_assoc, seqW]
end
/-- a bind ahead of which a loop keeps an invariant -/
theorem inv_then {α β : Type} {fs : Fns} {gs : List W} {fu : Nat} {tg : Tg} {body : SL} (g : α → W) (I : Nat → Env → Prop) {xs : List α} {r : Env} {f : Fl × Env → M β} {m : M β} (h0 : I 0 r)
    (hs : ∀ (i : Nat) x r, xs[i]? = some x → I i r → ∃ r2 r3, asgT tg (g x) r = some r2 ∧ evSL fs gs fu body r2 = .ret (.nx, r3) ∧ I (i + 1) r3) (k : ∀ r', I xs.length r' → f (.nx, r') = m) : (forR fs gs fu tg body r (xs.map g)).bind f = m := by
  obtain ⟨r', h1, h2⟩ := forR_inv (fs := fs) (gs := gs) (fu := fu) (tg := tg) (body := body) (ws := xs.map g) I h0 fun i w r hw hI => by
    rw [List.getElem?_map] at hw
    cases hx : xs[i]? with
    | none => rw [hx] at hw; cases hw
    | some x => rw [hx] at hw; cases hw; exact hs i x r hx hI
  rw [h1]
  rw [List.length_map] at h2
  exact k r' h2
theorem Ok.fold {α S β : Type} {fs : Fns} {gs : List W} {fu : Nat} {tg : Tg} {body : SL} (g : α → W) (env : S → Env) (step : S → α → S) (I : Nat → S → Prop) {xs : List α} (s : S) {f : Fl × Env → M β} {b : Nat} {P : β → Prop} (h0 : I 0 s)
    (hs : ∀ (i : Nat) x, xs[i]? = some x → ∀ s, I i s → ∃ r2, asgT tg (g x) (env s) = some r2 ∧ evSL fs gs fu body r2 = .ret (.nx, env (step s x)) ∧ I (i + 1) (step s x)) (k : I xs.length (xs.foldl step s) → Ok b (f (.nx, env (xs.foldl step s))) P) : Ok b ((forR fs gs fu tg body (env s) (xs.map g)).bind f) P := by
  obtain ⟨h1, h2⟩ := forR_fold (fs := fs) (gs := gs) (fu := fu) (tg := tg) (body := body) g env step I h0 hs
  rw [h1]
  exact k h2
theorem sortedW_L (xs : List Int) : sortedW (.d (.list (xs.map PyData.int))) = some (.d (.list ((sortI xs).map PyData.int))) := by simp [sortedW, sortedD, intsD_ints]
theorem sortedW_T {xs : List Int} (h : xs.length ≤ cap) : sortedW (.d (.tuple (xs.map PyData.int))) = some (.d (.list ((sortI xs).map PyData.int))) := by simp [sortedW, sortedD, intsD_ints, h]
theorem roomsF_len (cs : List (List Int)) : ∀ (k : Nat) (left : List Int), (roomsF cs k left).length ≤ left.length
  | 0, left => by simp [roomsF]
  | k + 1, [] => by simp [roomsF]
  | k + 1, x :: xs => by
    unfold roomsF
    have h1 := roomsF_len cs k ((x :: xs).filter fun y => decide (y ∉ roomL cs (x :: xs) x))
    have h2 := rest_len (cs := cs) (x := x) (xs := xs)
    rw [List.length_cons, List.length_cons]
    omega
theorem roomsL_len (cs : List (List Int)) (lot : List Int) : (roomsL cs lot).length ≤ lot.length := roomsF_len cs _ _
theorem sho_rooms {cs : List (List Int)} {lot : List Int} (ha : lot.Pairwise (· < ·)) (hl : lot.length ≤ 20) (hr : ∀ x ∈ lot, 0 ≤ x ∧ x ≤ 1000) : Sho 3000 2 (.tuple ((roomsL cs lot).map csD)) := by
  have R := roomsL_ok (cs := cs) ha
  have hn := roomsL_len cs lot
  refine .tup ((ShoA.map (b := 20) (k := 1) fun r h => ?_).mono (by omega) (Nat.le_refl _))
  obtain ⟨x, _, e⟩ := R.all r h
  have := roomL_len cs lot x
  exact (sho_ints fun y hy => by have := hr y (R.sub r h y hy); omega).mono (by rw [e]; omega) (Nat.le_refl _)
end DS

set_option Elab.async false
set_option linter.all false
set_option autoImplicit false
set_option maxRecDepth 100000
set_option maxHeartbeats 8000000
namespace DS
open PySem PySem.Spec PySem.SeqAt PyProof.Rows L2
/-! ### what leads -/
def comesB (ar : List (Int × Int)) (lot goal : List Int) : Nat → Int → Bool
  | 0, _ => false
  | m + 1, x => decide (x ∈ goal) || ar.any fun p => decide (p.1 = x) && (decide (p.2 ∈ lot) && comesB ar lot goal m p.2)
theorem comesB_iff {ar : List (Int × Int)} {lot goal : List Int} {n : Int} (ha : ArOk n ar) : ∀ (m : Nat) (x : Int), n - x < m → 0 < m → (comesB ar lot goal m x = true ↔ Comes ar lot goal x)
  | 0, x, h, h0 => by omega
  | m + 1, x, h, _ => by
    unfold comesB
    simp only [Bool.or_eq_true, decide_eq_true_eq, List.any_eq_true, Bool.and_eq_true]
    constructor
    · rintro (h1 | ⟨p, hp, rfl, h2, h3⟩)
      · exact .here h1
      · have hp2 := ha.ok p hp
        exact .step hp h2 ((comesB_iff ha m p.2 (by have := hp2.2.1; omega) (by have := hp2.2.1; have := hp2.2.2; omega)).mp h3)
    · intro z
      cases z with
      | here h1 => exact .inl h1
      | step h1 h2 h3 =>
        have := ha.ok _ h1
        exact .inr ⟨_, h1, rfl, h2, (comesB_iff ha m _ (by have := this.2.1; dsimp only at this; omega) (by have h8 := this.2.1; have h9 := this.2.2; dsimp only at h8 h9; omega)).mpr h3⟩
theorem leadF_sub {ar : List (Int × Int)} {lot goal : List Int} : ∀ {rest found : List Int}, (∀ x ∈ found, x ∉ rest) → found.Nodup → rest.Nodup → (leadF ar lot goal rest found).Nodup
  | [], found, _, h, _ => h
  | x :: rest, found, h1, h2, h3 => by
    rw [leadF_cons]
    obtain ⟨h4, h5⟩ := List.nodup_cons.mp h3
    split
    · refine leadF_sub (fun y hy => ?_) ?_ h5
      · rcases List.mem_append.mp hy with hy | hy
        · exact fun z => h1 y hy (List.mem_cons_of_mem _ z)
        · have : y = x := by simpa using hy
          subst this
          exact h4
      · refine List.nodup_append.mpr ⟨h2, by simp, fun a ha b hb => ?_⟩
        have : b = x := by simpa using hb
        subst this
        exact fun z => h1 a ha (z ▸ List.mem_cons_self)
    · exact leadF_sub (fun y hy z => h1 y hy (List.mem_cons_of_mem _ z)) h2 h5
theorem lead_mem {ar : List (Int × Int)} {lot goal : List Int} (ha : ∀ p ∈ ar, p.1 < p.2) (hl : lot.Pairwise (· < ·)) (x : Int) : x ∈ leadL ar lot goal ↔ x ∈ lot ∧ Comes ar lot goal x := by
  unfold leadL
  rw [(sortI_perm _).mem_iff]
  exact leadF_comes ha hl x
theorem lead_asc {ar : List (Int × Int)} {lot goal : List Int} (hl : lot.Pairwise (· < ·)) : (leadL ar lot goal).Pairwise (· < ·) :=
  sortI_strict (leadF_sub (fun x hx => by simp at hx) List.nodup_nil (nodup_rev (asc_nodup' hl)))
theorem comes_mono {ar ar' : List (Int × Int)} {lot lot' goal goal' : List Int} (h0 : ∀ p ∈ ar, p ∈ ar') (h1 : ∀ x ∈ lot, x ∈ lot') (h2 : ∀ x ∈ goal, x ∈ goal') {x : Int} (h : Comes ar lot goal x) : Comes ar' lot' goal' x := by
  induction h with
  | here h => exact .here (h2 _ h)
  | step a b _ ih => exact .step (h0 _ a) (h1 _ b) ih
theorem due_lead {n : Int} {ar : List (Int × Int)} {lot goal : List Int} (ha : ArOk n ar) (hn : n < 20) (hl : lot.Pairwise (· < ·)) (h0 : ∀ x ∈ lot, 0 ≤ x) : (lot.filter fun x => comesB ar lot goal 20 x) = leadL ar lot goal :=
  asc_uniqI (hl.sublist List.filter_sublist) (lead_asc hl) fun x => by
    have hu : ∀ p ∈ ar, p.1 < p.2 := fun p hp => (ha.ok p hp).2.1
    rw [List.mem_filter, lead_mem hu hl]
    exact ⟨fun ⟨a, b⟩ => ⟨a, (comesB_iff ha 20 x (by have := h0 x a; omega) (by omega)).mp b⟩, fun ⟨a, b⟩ => ⟨a, (comesB_iff ha 20 x (by have := h0 x a; omega) (by omega)).mpr b⟩⟩
theorem closedB_iff {ar : List (Int × Int)} {lot sm : List Int} : closedB ar lot sm = true ↔ ∀ y x, (y, x) ∈ ar → x ∈ sm → y ∈ lot → y ∈ sm := by
  unfold closedB
  simp only [List.all_eq_true, decide_eq_true_eq]
  refine ⟨fun h y x a b c => h x b y ?_, fun h x b y c => ?_⟩
  · unfold insF
    exact List.mem_map.mpr ⟨(y, x), List.mem_filter.mpr ⟨a, by simp [c]⟩, rfl⟩
  · unfold insF at c
    obtain ⟨p, hp, rfl⟩ := List.mem_map.mp c
    obtain ⟨h1, h2⟩ := List.mem_filter.mp hp
    simp at h2
    obtain ⟨u, v⟩ := p
    obtain ⟨rfl, h2⟩ := h2
    exact h u v h1 b h2
def closedF (ar : List (Int × Int)) (lot told : List Int) : Bool := (ar.filter fun p => decide (p.2 ∈ told) && (decide (p.1 ∈ lot) && !decide (p.1 ∈ told))).isEmpty
theorem closedF_eq (ar : List (Int × Int)) (lot told : List Int) : closedF ar lot told = closedB ar lot told := by
  rw [Bool.eq_iff_iff, closedB_iff]
  unfold closedF
  rw [List.isEmpty_iff, List.filter_eq_nil_iff]
  refine ⟨fun h y x a b c => ?_, fun h p hp q => ?_⟩
  · have := h (y, x) a
    simp [b, c] at this
    exact this
  · simp at q
    exact q.2.2 (h p.1 p.2 hp q.1 q.2.1)
theorem lead_closed {ar : List (Int × Int)} {lot goal : List Int} (ha : ∀ p ∈ ar, p.1 < p.2) (hl : lot.Pairwise (· < ·)) : closedB ar lot (leadL ar lot goal) = true :=
  closedB_iff.mpr fun y x h1 h2 h3 => (lead_mem ha hl y).mpr ⟨h3, .step h1 ((lead_mem ha hl x).mp h2).1 ((lead_mem ha hl x).mp h2).2⟩
theorem lead_least {ar : List (Int × Int)} {lot goal told : List Int} (hc : closedB ar lot told = true) (hg : ∀ x ∈ goal, x ∈ told) {x : Int} (h : Comes ar lot goal x) : x ∈ lot → x ∈ told := by
  induction h with
  | here h => exact fun _ => hg _ h
  | step h1 h2 _ ih => exact fun hx => closedB_iff.mp hc _ _ h1 (ih h2) hx
/-! ### all lots of some things -/
theorem mem_lots : ∀ (xs : List Int) (f : List (List Int)) (l : List Int), l ∈ xs.foldl lotS f ↔ ∃ a ∈ f, ∃ b : List Int, b.Sublist xs ∧ l = a ++ b
  | [], f, l => ⟨fun h => ⟨l, h, [], List.Sublist.refl _, by simp⟩, fun ⟨a, ha, b, hb, e⟩ => by
      have : b = [] := by simpa using hb
      subst this
      rw [e, List.append_nil]
      exact ha⟩
  | x :: xs, f, l => by
    rw [List.foldl_cons, mem_lots xs]
    constructor
    · rintro ⟨a, ha, b, hb, e⟩
      rcases List.mem_append.mp (show a ∈ f ++ f.map (· ++ [x]) from ha) with h | h
      · exact ⟨a, h, b, hb.cons x, e⟩
      · obtain ⟨a', h', rfl⟩ := List.mem_map.mp h
        exact ⟨a', h', x :: b, hb.cons_cons x, by rw [e]; simp⟩
    · rintro ⟨a, ha, b, hb, e⟩
      cases hb with
      | cons _ hb => exact ⟨a, List.mem_append_left _ ha, b, hb, e⟩
      | cons_cons _ hb => exact ⟨a ++ [x], List.mem_append_right _ (List.mem_map.mpr ⟨a, ha, rfl⟩), _, hb, by rw [e]; simp⟩
theorem lots_sub {xs l : List Int} : l ∈ xs.foldl lotS [[]] ↔ l.Sublist xs := by
  rw [mem_lots]
  constructor
  · rintro ⟨a, ha, b, hb, e⟩
    rw [List.mem_singleton.mp ha] at e
    rw [e]
    exact hb
  · exact fun h => ⟨[], List.mem_singleton.mpr rfl, l, h, rfl⟩
theorem sub_set {m : Int} {lot l : List Int} (h : SetOk m lot) (hs : l.Sublist lot) : SetOk m l := ⟨fun x hx => h.rng x (hs.subset hx), h.asc.sublist hs, Nat.le_trans hs.length_le h.few⟩
end DS

set_option Elab.async false
set_option linter.all false
set_option autoImplicit false
set_option maxRecDepth 100000
set_option maxHeartbeats 8000000
namespace DS
open PySem PySem.Spec PySem.SeqAt PyProof.Rows L2
theorem rooms_mono {cs cs' : List (List Int)} {lot lot' : List Int} (ha : lot.Pairwise (· < ·)) (ha' : lot'.Pairwise (· < ·)) (hl : ∀ z ∈ lot, z ∈ lot') (hc : ∀ a b, linkB cs a b = true → linkB cs' a b = true) : ∀ r ∈ roomsL cs lot, ∃ o ∈ roomsL cs' lot', ∀ x ∈ r, x ∈ o := fun r hr => by
  obtain ⟨x, hx, e⟩ := (roomsL_ok ha).all r hr
  obtain ⟨o, ho, hxo⟩ := (roomsL_ok (cs := cs') ha').cov x (hl x hx)
  obtain ⟨y, hy, e2⟩ := (roomsL_ok ha').all o ho
  refine ⟨o, ho, fun z hz => ?_⟩
  rw [e] at hz
  rw [e2] at hxo ⊢
  obtain ⟨h1, h2⟩ := mem_roomL.mp hz
  exact mem_roomL.mpr ⟨hl z h1, Conn.trans (mem_roomL.mp hxo).2 (h2.mono hl hc)⟩
theorem cutD_drop (ds : List PyData) (k : Nat) : cutD ds (some (k : Int)) none = ds.drop k := by
  unfold cutD
  rw [HT.sIx_none, HT.sIx_nat]
  rcases Nat.lt_or_ge k ds.length with h | h
  · rw [Nat.min_eq_left (Nat.le_of_lt h), List.take_of_length_le (by simp)]
  · rw [Nat.min_eq_right h, List.drop_of_length_le (Nat.le_refl _), List.drop_of_length_le h]
    simp
theorem less_ok {n : Int} {ar : List (Int × Int)} {cs : List (List Int)} (d : DrOk n ar cs) (k : Nat) : DrOk n ar (cs.take k ++ cs.drop (k + 1)) := by
  have hs : (cs.take k ++ cs.drop (k + 1)).Sublist cs := by
    rw [← List.eraseIdx_eq_take_drop_succ]
    exact List.eraseIdx_sublist ..
  exact ⟨d.lo, d.hi, d.ar, ⟨fun c hc => d.cs.ok c (hs.subset hc), d.cs.asc.sublist hs, Nat.le_trans hs.length_le d.cs.few⟩⟩
theorem less_link {cs : List (List Int)} (k : Nat) (a b : Int) (h : linkB (cs.take k ++ cs.drop (k + 1)) a b = true) : linkB cs a b = true := by
  have hs : (cs.take k ++ cs.drop (k + 1)).Sublist cs := by
    rw [← List.eraseIdx_eq_take_drop_succ]
    exact List.eraseIdx_sublist ..
  unfold linkB at h ⊢
  obtain ⟨c, hc, q⟩ := List.any_eq_true.mp h
  exact List.any_eq_true.mpr ⟨c, hs.subset hc, q⟩
/-- rooms that can be worked out -/
def gC (cs : List (List Int)) (lot : List Int) (found : List (List Int)) (s : Int) : List (List Int) := if found.any (fun r => decide (s ∈ r)) then found else found ++ [sortI (lot.foldl (fun f _ => cmT cs lot f) [s])]
theorem rooms_by {cs : List (List Int)} {lot : List Int} (hn : ∀ c ∈ cs, c.Nodup) (ha : lot.Pairwise (· < ·)) : roomsL cs lot = lot.foldl (gC cs lot) [] := by
  rw [← fold_rooms_all ha]
  have : ∀ (ss : List Int) (f : List (List Int)), (∀ s ∈ ss, s ∈ lot) → ss.foldl (gF cs lot) f = ss.foldl (gC cs lot) f := fun ss => by
    induction ss with
    | nil => exact fun _ _ => rfl
    | cons s ss ih =>
      intro f h
      have e : gF cs lot f s = gC cs lot f s := by
        unfold gF gC
        rw [(cm_room hn ha (h s List.mem_cons_self)).1]
      rw [List.foldl_cons, List.foldl_cons, e]
      exact ih _ fun z hz => h z (List.mem_cons_of_mem _ hz)
  exact this lot [] fun _ h => h
theorem less_ar {n : Int} {ar : List (Int × Int)} {cs : List (List Int)} (d : DrOk n ar cs) (k : Nat) : DrOk n (ar.take k ++ ar.drop (k + 1)) cs ∧ ∀ p ∈ ar.take k ++ ar.drop (k + 1), p ∈ ar := by
  have hs : (ar.take k ++ ar.drop (k + 1)).Sublist ar := by
    rw [← List.eraseIdx_eq_take_drop_succ]
    exact List.eraseIdx_sublist ..
  exact ⟨⟨d.lo, d.hi, ⟨fun c hc => d.ar.ok c (hs.subset hc), d.ar.asc.sublist hs, Nat.le_trans hs.length_le d.ar.few⟩, d.cs⟩, fun p hp => hs.subset hp⟩
theorem none_out {xs ys : List Int} (h : ∀ x ∈ xs, x ∈ ys) : (xs.filter fun x => decide (x ∉ ys)).isEmpty = true := by
  rw [List.isEmpty_iff, List.filter_eq_nil_iff]
  intro x hx
  simp [h x hx]
theorem some_out {xs ys : List Int} (h : ¬ ∀ x ∈ xs, x ∈ ys) : (xs.filter fun x => decide (x ∉ ys)).isEmpty = false := by
  cases q : (xs.filter fun x => decide (x ∉ ys)).isEmpty with
  | false => rfl
  | true =>
    rw [List.isEmpty_iff, List.filter_eq_nil_iff] at q
    refine absurd (fun x hx => ?_) h
    have := q x hx
    simpa using this
end DS

set_option Elab.async false
set_option linter.all false
set_option autoImplicit false
set_option maxRecDepth 100000
set_option maxHeartbeats 8000000
/-! DP12: head-first runs: what comes later is not looked at . -/
namespace DS
open PySem PySem.Spec PySem.SeqAt PyProof.Rows L2
theorem M.bind_cg {α β : Type} {m m' : M α} {f : α → M β} (h : m = m') : m.bind f = m'.bind f := by rw [h]
/-- a loop with an invariant, over a list of items -/
theorem forR_invM {α : Type} {fs : Fns} {gs : List W} {fu : Nat} {tg : Tg} {body : SL} (g : α → W) (I : Nat → Env → Prop) {xs : List α} {r : Env} (h0 : I 0 r)
    (hs : ∀ (i : Nat) x r, xs[i]? = some x → I i r → ∃ r2 r3, asgT tg (g x) r = some r2 ∧ evSL fs gs fu body r2 = .ret (.nx, r3) ∧ I (i + 1) r3) : ∃ r', forR fs gs fu tg body r (xs.map g) = .ret (.nx, r') ∧ I xs.length r' := by
  obtain ⟨r', h1, h2⟩ := forR_inv (fs := fs) (gs := gs) (fu := fu) (tg := tg) (body := body) (ws := xs.map g) I h0 fun i w r hw hI => by
    rw [List.getElem?_map] at hw
    cases hx : xs[i]? with
    | none => rw [hx] at hw; cases hw
    | some x => rw [hx] at hw; cases hw; exact hs i x r hx hI
  rw [List.length_map] at h2
  exact ⟨r', h1, h2⟩
end DS

set_option Elab.async false
set_option linter.all false
set_option autoImplicit false
set_option maxRecDepth 100000
set_option maxHeartbeats 8000000
/-! DP13: questions. -/
namespace DS
open PySem PySem.Spec PySem.SeqAt PyProof.Rows L2
abbrev drP (n : Int) (ar : List (Int × Int)) (cs : List (List Int)) : PyData := .tuple [.int n, .tuple (ar.map prD), .tuple (cs.map csD)]
abbrev quP (n : Int) (ar : List (Int × Int)) (cs : List (List Int)) (tr pu se as : List Int) : PyData := .tuple [drP n ar cs, .tuple (tr.map PyData.int), .tuple (pu.map PyData.int), .tuple (se.map PyData.int), .tuple (as.map PyData.int)]
abbrev quW (n : Int) (ar : List (Int × Int)) (cs : List (List Int)) (tr pu se as : List Int) : W := .d (quP n ar cs tr pu se as)
structure QuOk (n : Int) (ar : List (Int × Int)) (cs : List (List Int)) (tr pu se as : List Int) : Prop where
  d : DrOk n ar cs
  str : SetOk (n - 1) tr
  spu : SetOk (n - 1) pu
  sse : SetOk (n - 1) se
  sas : SetOk (n - 1) as
  ne : as ≠ []
  sub : ∀ x ∈ tr, x ∈ pu
  dsp : ∀ x ∈ se, x ∉ pu
  dap : ∀ x ∈ as, x ∉ pu
  das : ∀ x ∈ as, x ∉ se
theorem at5_0 (a b c d e : PyData) : atI [a, b, c, d, e] 0 = some a := rfl
theorem at5_1 (a b c d e : PyData) : atI [a, b, c, d, e] 1 = some b := rfl
theorem at5_2 (a b c d e : PyData) : atI [a, b, c, d, e] 2 = some c := rfl
theorem at5_3 (a b c d e : PyData) : atI [a, b, c, d, e] 3 = some d := rfl
theorem at5_4 (a b c d e : PyData) : atI [a, b, c, d, e] 4 = some e := rfl
theorem at3_0 (a b c : PyData) : atI [a, b, c] 0 = some a := rfl
theorem at3_1 (a b c : PyData) : atI [a, b, c] 1 = some b := rfl
theorem at3_2 (a b c : PyData) : atI [a, b, c] 2 = some c := rfl
def SpQuestion (F : Fn1) : Prop := ∀ n ar cs tr pu se as, QuOk n ar cs tr pu se as → F [quW n ar cs tr pu se as] = .ret (quW n ar cs tr pu se as)
def SpThings (F : Fn1) : Prop := ∀ n ar cs tr pu se as, QuOk n ar cs tr pu se as → F [quW n ar cs tr pu se as] = .ret (tI (sortI (pu ++ se ++ as)))
structure MvOk (se mv : List Int) : Prop where
  sub : ∀ x ∈ mv, x ∈ se
  nd : mv.Nodup
def SpIsMoved (F : Fn1) : Prop := ∀ n ar cs tr pu se as mv, QuOk n ar cs tr pu se as → MvOk se mv → F [quW n ar cs tr pu se as, tI mv] = .ret (.b true)
def SpCheckMoved (F : Fn1) : Prop := ∀ n ar cs tr pu se as mv, QuOk n ar cs tr pu se as → MvOk se mv → F [quW n ar cs tr pu se as, tI mv] = .ret (tI mv)
def freeL (n : Int) (pu mv : List Int) : List Int := (upto n).filter fun x => decide (x ∉ pu ++ mv)
noncomputable def goalL (n : Int) (ar : List (Int × Int)) (pu se as mv : List Int) : List Int := leadL ar (freeL n pu mv) (se.filter (fun x => decide (x ∉ mv)) ++ as)
def SpGoalSo (F : Fn1) : Prop := ∀ n ar cs tr pu se as mv, QuOk n ar cs tr pu se as → mv.length ≤ 100 → F [quW n ar cs tr pu se as, tI mv] = .ret (tI (goalL n ar pu se as mv))
def SpGoal (F : Fn1) : Prop := ∀ n ar cs tr pu se as mv, QuOk n ar cs tr pu se as → MvOk se mv → F [quW n ar cs tr pu se as, tI mv] = .ret (tI (goalL n ar pu se as mv))
section
variable {fs : Fns} {gs : List W} {fu : Nat}
theorem QuOk.lens {n : Int} {ar : List (Int × Int)} {cs : List (List Int)} {tr pu se as : List Int} (q : QuOk n ar cs tr pu se as) : tr.length ≤ 10 ∧ pu.length ≤ 10 ∧ se.length ≤ 10 ∧ as.length ≤ 10 := by
  have := q.d.hi
  have := set_len q.str
  have := set_len q.spu
  have := set_len q.sse
  have := set_len q.sas
  omega
theorem any_none {α : Type} {p : α → Bool} {xs : List α} (h : ∀ x ∈ xs, p x = false) : xs.any p = false := by
  rw [List.any_eq_false]
  intro x hx
  rw [h x hx]
  simp
theorem sp_check_question {i_is_within i_is_set i_check_drawing : Nat} (h1 : SpWithin (applyF fs i_is_within)) (h2 : SpIsSet (applyF fs i_is_set)) (h3 : SpDrawing (applyF fs i_check_drawing)) :
    SpQuestion (evD fs gs fu 8 1 (PB_check_question i_is_within i_is_set i_check_drawing)) := fun n ar cs tr pu se as q => by
  have hc : cap = 100000 := rfl
  obtain ⟨l1, l2, l3, l4⟩ := q.lens
  have a1 := h2 _ _ q.str
  have a2 := h2 _ _ q.spu
  have a3 := h2 _ _ q.sse
  have a4 := h2 _ _ q.sas
  have a5 := h3 _ _ _ q.d
  have a6 := h1 pu tr (by omega)
  rw [List.all_eq_true.mpr fun x hx => decide_eq_true (q.sub x hx)] at a6
  have n1 : ¬ ((as.length : Int) = 0) := fun z => q.ne (List.length_eq_zero_iff.mp (by omega))
  have k1 : (se.any fun x => decide (x ∈ pu)) = false := any_none fun x hx => decide_eq_false (q.dsp x hx)
  have k2 : (as.any fun x => decide (x ∈ pu) || decide (x ∈ se)) = false := any_none fun x hx => by rw [decide_eq_false (q.dap x hx), decide_eq_false (q.das x hx)]; rfl
  simp only [tI, W.i, W.b, drW] at a1 a2 a3 a4 a5 a6
  rw [d_run 8 1 _ _ rfl]
  simp [PB_check_question, v_v, v_non, v_bl, v_int, v_str, v_gl, v_fn, v_tup, v_lst, v_dnew, v_bin, v_neg, v_cmp, v_chain, v_isN, v_notN, v_bop, v_b1, v_b2, v_not, v_ite, v_ix, v_sl, v_call, v_callk, v_callv, v_bi, v_isi, v_comp, itB, escB, l_nil, l_cons, o_nil, o_cons, c_nil', c_cons', i_of', i_rng1', i_rng2', i_enum', i_zip', i_rev', s_nil', s_cons', t_asg, t_par, t_ret, t_retN, t_ite, t_for, t_ex, t_put, t_app, t_ext, t_brk, t_cnt, cmpK, iteK, notK, bopK, tupK, lstK, iteS, asgK, parK, escE, escL, escI, dem, dem1, getN, binW, addW, mulW, int2, b1W, lenW, tupleW, listW, intW, isiW, ixW, cmpW, wBool, wInt, isNone, asgE, asgT, asgTs, Tg.is, TgL.is, wipeE, fresh, isBox, datas, W.data?, opt_some, opt_none, ↓M.bind_ret, M.bind_stuck, M.nox_ret, itOf, itEnum, itZip, itRev, ownAt, ownL, W.i, W.b, List.map_cons, List.map_nil, List.set, List.getElem?_cons_zero, List.getElem?_cons_succ, List.length_cons, List.length_nil, List.replicate, List.append_nil, List.nil_append, List.cons_append, ite_true, ite_false, Bool.false_eq_true, reduceCtorEq, if_true, if_false, seqK_nx, seqK_rt, seqK_bk, seqK_ct, finK_rt, finK_nx, parE, t_whl, t_pop, ↓M.bind_assoc, seqW, List.map_map, List.length_map, Nat.reduceAdd, Nat.reduceLT, Option.map_some, Bool.not_true, Bool.not_false, ordW_int, eqW_int, intB, Bool.and_self, Bool.false_and, Bool.and_false, Bool.true_and, Bool.and_true, Bool.or_false, Bool.false_or, Bool.true_or, Bool.or_true, decide_true, decide_false, a5, forR, forM_cons, forM, at5_1, at5_2, at5_3, at5_4, at3_0, a1, a2, a3, a4, q.ne, a6]
  refine (M.bind_eq (compR_fm (W.d ∘ PyData.int) (fun y => decide (y ∈ pu)) (fun _ => .int 1) (by omega) fun y hy => by by_cases q : y ∈ pu <;> simp [stepC, v_v, v_non, v_bl, v_int, v_str, v_gl, v_fn, v_tup, v_lst, v_dnew, v_bin, v_neg, v_cmp, v_chain, v_isN, v_notN, v_bop, v_b1, v_b2, v_not, v_ite, v_ix, v_sl, v_call, v_callk, v_callv, v_bi, v_isi, v_comp, itB, escB, l_nil, l_cons, o_nil, o_cons, c_nil', c_cons', i_of', i_rng1', i_rng2', i_enum', i_zip', i_rev', s_nil', s_cons', t_asg, t_par, t_ret, t_retN, t_ite, t_for, t_ex, t_put, t_app, t_ext, t_brk, t_cnt, cmpK, iteK, notK, bopK, tupK, lstK, iteS, asgK, parK, escE, escL, escI, dem, dem1, getN, binW, addW, mulW, int2, b1W, lenW, tupleW, listW, intW, isiW, ixW, cmpW, wBool, wInt, isNone, asgE, asgT, asgTs, Tg.is, TgL.is, wipeE, fresh, isBox, datas, W.data?, opt_some, opt_none, ↓M.bind_ret, M.bind_stuck, M.nox_ret, itOf, itEnum, itZip, itRev, ownAt, ownL, W.i, W.b, List.map_cons, List.map_nil, List.set, List.getElem?_cons_zero, List.getElem?_cons_succ, List.length_cons, List.length_nil, List.replicate, List.append_nil, List.nil_append, List.cons_append, ite_true, ite_false, Bool.false_eq_true, reduceCtorEq, if_true, if_false, seqK_nx, seqK_rt, seqK_bk, seqK_ct, finK_rt, finK_nx, parE, t_whl, t_pop, ↓M.bind_assoc, seqW, List.map_map, List.length_map, Nat.reduceAdd, Nat.reduceLT, Option.map_some, Bool.not_true, Bool.not_false, ordW_int, eqW_int, intB, Bool.and_self, Bool.false_and, Bool.and_false, Bool.true_and, Bool.and_true, Bool.or_false, Bool.false_or, Bool.true_or, Bool.or_true, decide_true, decide_false, q])).trans ?_
  simp only [v_v, v_non, v_bl, v_int, v_str, v_gl, v_fn, v_tup, v_lst, v_dnew, v_bin, v_neg, v_cmp, v_chain, v_isN, v_notN, v_bop, v_b1, v_b2, v_not, v_ite, v_ix, v_sl, v_call, v_callk, v_callv, v_bi, v_isi, v_comp, itB, escB, l_nil, l_cons, o_nil, o_cons, c_nil', c_cons', i_of', i_rng1', i_rng2', i_enum', i_zip', i_rev', s_nil', s_cons', t_asg, t_par, t_ret, t_retN, t_ite, t_for, t_ex, t_put, t_app, t_ext, t_brk, t_cnt, cmpK, iteK, notK, bopK, tupK, lstK, iteS, asgK, parK, escE, escL, escI, dem, dem1, getN, binW, addW, mulW, int2, b1W, lenW, tupleW, listW, intW, isiW, ixW, cmpW, wBool, wInt, isNone, asgE, asgT, asgTs, Tg.is, TgL.is, wipeE, fresh, isBox, datas, W.data?, opt_some, opt_none, ↓M.bind_ret, M.bind_stuck, M.nox_ret, itOf, itEnum, itZip, itRev, ownAt, ownL, W.i, W.b, List.map_cons, List.map_nil, List.set, List.getElem?_cons_zero, List.getElem?_cons_succ, List.length_cons, List.length_nil, List.replicate, List.append_nil, List.nil_append, List.cons_append, ite_true, ite_false, Bool.false_eq_true, reduceCtorEq, if_true, if_false, seqK_nx, seqK_rt, seqK_bk, seqK_ct, finK_rt, finK_nx, parE, t_whl, t_pop, ↓M.bind_assoc, seqW, List.map_map, List.length_map, Nat.reduceAdd, Nat.reduceLT, Option.map_some, Bool.not_true, Bool.not_false, ordW_int, eqW_int, intB, Bool.and_self, Bool.false_and, Bool.and_false, Bool.true_and, Bool.and_true, Bool.or_false, Bool.false_or, Bool.true_or, Bool.or_true, decide_true, decide_false, List.length_map, ordW_int, intB, len_pos, k1]
  refine (M.bind_eq (compR_fm (W.d ∘ PyData.int) (fun y => decide (y ∈ pu) || decide (y ∈ se)) (fun _ => .int 1) (by omega) fun y hy => by by_cases q : y ∈ pu <;> by_cases q2 : y ∈ se <;> simp [stepC, v_v, v_non, v_bl, v_int, v_str, v_gl, v_fn, v_tup, v_lst, v_dnew, v_bin, v_neg, v_cmp, v_chain, v_isN, v_notN, v_bop, v_b1, v_b2, v_not, v_ite, v_ix, v_sl, v_call, v_callk, v_callv, v_bi, v_isi, v_comp, itB, escB, l_nil, l_cons, o_nil, o_cons, c_nil', c_cons', i_of', i_rng1', i_rng2', i_enum', i_zip', i_rev', s_nil', s_cons', t_asg, t_par, t_ret, t_retN, t_ite, t_for, t_ex, t_put, t_app, t_ext, t_brk, t_cnt, cmpK, iteK, notK, bopK, tupK, lstK, iteS, asgK, parK, escE, escL, escI, dem, dem1, getN, binW, addW, mulW, int2, b1W, lenW, tupleW, listW, intW, isiW, ixW, cmpW, wBool, wInt, isNone, asgE, asgT, asgTs, Tg.is, TgL.is, wipeE, fresh, isBox, datas, W.data?, opt_some, opt_none, ↓M.bind_ret, M.bind_stuck, M.nox_ret, itOf, itEnum, itZip, itRev, ownAt, ownL, W.i, W.b, List.map_cons, List.map_nil, List.set, List.getElem?_cons_zero, List.getElem?_cons_succ, List.length_cons, List.length_nil, List.replicate, List.append_nil, List.nil_append, List.cons_append, ite_true, ite_false, Bool.false_eq_true, reduceCtorEq, if_true, if_false, seqK_nx, seqK_rt, seqK_bk, seqK_ct, finK_rt, finK_nx, parE, t_whl, t_pop, ↓M.bind_assoc, seqW, List.map_map, List.length_map, Nat.reduceAdd, Nat.reduceLT, Option.map_some, Bool.not_true, Bool.not_false, ordW_int, eqW_int, intB, Bool.and_self, Bool.false_and, Bool.and_false, Bool.true_and, Bool.and_true, Bool.or_false, Bool.false_or, Bool.true_or, Bool.or_true, decide_true, decide_false, q, q2])).trans ?_
  simp only [v_v, v_non, v_bl, v_int, v_str, v_gl, v_fn, v_tup, v_lst, v_dnew, v_bin, v_neg, v_cmp, v_chain, v_isN, v_notN, v_bop, v_b1, v_b2, v_not, v_ite, v_ix, v_sl, v_call, v_callk, v_callv, v_bi, v_isi, v_comp, itB, escB, l_nil, l_cons, o_nil, o_cons, c_nil', c_cons', i_of', i_rng1', i_rng2', i_enum', i_zip', i_rev', s_nil', s_cons', t_asg, t_par, t_ret, t_retN, t_ite, t_for, t_ex, t_put, t_app, t_ext, t_brk, t_cnt, cmpK, iteK, notK, bopK, tupK, lstK, iteS, asgK, parK, escE, escL, escI, dem, dem1, getN, binW, addW, mulW, int2, b1W, lenW, tupleW, listW, intW, isiW, ixW, cmpW, wBool, wInt, isNone, asgE, asgT, asgTs, Tg.is, TgL.is, wipeE, fresh, isBox, datas, W.data?, opt_some, opt_none, ↓M.bind_ret, M.bind_stuck, M.nox_ret, itOf, itEnum, itZip, itRev, ownAt, ownL, W.i, W.b, List.map_cons, List.map_nil, List.set, List.getElem?_cons_zero, List.getElem?_cons_succ, List.length_cons, List.length_nil, List.replicate, List.append_nil, List.nil_append, List.cons_append, ite_true, ite_false, Bool.false_eq_true, reduceCtorEq, if_true, if_false, seqK_nx, seqK_rt, seqK_bk, seqK_ct, finK_rt, finK_nx, parE, t_whl, t_pop, ↓M.bind_assoc, seqW, List.map_map, List.length_map, Nat.reduceAdd, Nat.reduceLT, Option.map_some, Bool.not_true, Bool.not_false, ordW_int, eqW_int, intB, Bool.and_self, Bool.false_and, Bool.and_false, Bool.true_and, Bool.and_true, Bool.or_false, Bool.false_or, Bool.true_or, Bool.or_true, decide_true, decide_false, List.length_map, ordW_int, intB, len_pos, k2]
theorem sp_things_so : SpThings (evD fs gs fu 1 1 PB_things_so) := fun n ar cs tr pu se as q => by
  have hc : cap = 100000 := rfl
  obtain ⟨l1, l2, l3, l4⟩ := q.lens
  have g1 : pu.length + se.length ≤ cap := by omega
  have g2 : pu.length + se.length + as.length ≤ cap := by omega
  rw [d_run 1 1 _ _ rfl]
  have e : ((pu.map PyData.int ++ se.map PyData.int) ++ as.map PyData.int) = (pu ++ se ++ as).map PyData.int := by simp
  have s := sortedW_T (xs := pu ++ se ++ as) (by simp; omega)
  simp [PB_things_so, v_v, v_non, v_bl, v_int, v_str, v_gl, v_fn, v_tup, v_lst, v_dnew, v_bin, v_neg, v_cmp, v_chain, v_isN, v_notN, v_bop, v_b1, v_b2, v_not, v_ite, v_ix, v_sl, v_call, v_callk, v_callv, v_bi, v_isi, v_comp, itB, escB, l_nil, l_cons, o_nil, o_cons, c_nil', c_cons', i_of', i_rng1', i_rng2', i_enum', i_zip', i_rev', s_nil', s_cons', t_asg, t_par, t_ret, t_retN, t_ite, t_for, t_ex, t_put, t_app, t_ext, t_brk, t_cnt, cmpK, iteK, notK, bopK, tupK, lstK, iteS, asgK, parK, escE, escL, escI, dem, dem1, getN, binW, addW, mulW, int2, b1W, lenW, tupleW, listW, intW, isiW, ixW, cmpW, wBool, wInt, isNone, asgE, asgT, asgTs, Tg.is, TgL.is, wipeE, fresh, isBox, datas, W.data?, opt_some, opt_none, ↓M.bind_ret, M.bind_stuck, M.nox_ret, itOf, itEnum, itZip, itRev, ownAt, ownL, W.i, W.b, List.map_cons, List.map_nil, List.set, List.getElem?_cons_zero, List.getElem?_cons_succ, List.length_cons, List.length_nil, List.replicate, List.append_nil, List.nil_append, List.cons_append, ite_true, ite_false, Bool.false_eq_true, reduceCtorEq, if_true, if_false, seqK_nx, seqK_rt, seqK_bk, seqK_ct, finK_rt, finK_nx, parE, t_whl, t_pop, ↓M.bind_assoc, seqW, List.map_map, List.length_map, Nat.reduceAdd, Nat.reduceLT, Option.map_some, Bool.not_true, Bool.not_false, ordW_int, eqW_int, intB, Bool.and_self, Bool.false_and, Bool.and_false, Bool.true_and, Bool.and_true, Bool.or_false, Bool.false_or, Bool.true_or, Bool.or_true, decide_true, decide_false, at5_2, at5_3, at5_4, g1, g2]
  have e2 : sortedW (.d (.tuple (pu.map PyData.int ++ (se.map PyData.int ++ as.map PyData.int)))) = some (.d (.list ((sortI (pu ++ se ++ as)).map PyData.int))) := by rw [← s, ← e, List.append_assoc]
  simp [v_v, v_non, v_bl, v_int, v_str, v_gl, v_fn, v_tup, v_lst, v_dnew, v_bin, v_neg, v_cmp, v_chain, v_isN, v_notN, v_bop, v_b1, v_b2, v_not, v_ite, v_ix, v_sl, v_call, v_callk, v_callv, v_bi, v_isi, v_comp, itB, escB, l_nil, l_cons, o_nil, o_cons, c_nil', c_cons', i_of', i_rng1', i_rng2', i_enum', i_zip', i_rev', s_nil', s_cons', t_asg, t_par, t_ret, t_retN, t_ite, t_for, t_ex, t_put, t_app, t_ext, t_brk, t_cnt, cmpK, iteK, notK, bopK, tupK, lstK, iteS, asgK, parK, escE, escL, escI, dem, dem1, getN, binW, addW, mulW, int2, b1W, lenW, tupleW, listW, intW, isiW, ixW, cmpW, wBool, wInt, isNone, asgE, asgT, asgTs, Tg.is, TgL.is, wipeE, fresh, isBox, datas, W.data?, opt_some, opt_none, ↓M.bind_ret, M.bind_stuck, M.nox_ret, itOf, itEnum, itZip, itRev, ownAt, ownL, W.i, W.b, List.map_cons, List.map_nil, List.set, List.getElem?_cons_zero, List.getElem?_cons_succ, List.length_cons, List.length_nil, List.replicate, List.append_nil, List.nil_append, List.cons_append, ite_true, ite_false, Bool.false_eq_true, reduceCtorEq, if_true, if_false, seqK_nx, seqK_rt, seqK_bk, seqK_ct, finK_rt, finK_nx, parE, t_whl, t_pop, ↓M.bind_assoc, seqW, List.map_map, List.length_map, Nat.reduceAdd, Nat.reduceLT, Option.map_some, Bool.not_true, Bool.not_false, ordW_int, eqW_int, intB, Bool.and_self, Bool.false_and, Bool.and_false, Bool.true_and, Bool.and_true, Bool.or_false, Bool.false_or, Bool.true_or, Bool.or_true, decide_true, decide_false, e2]
theorem sortU_nodup {l : List Int} (h : l.Nodup) : (sortU l).length = l.length :=
  ((List.perm_ext_iff_of_nodup (asc_nodup' (sortU_sorted l)) h).mpr fun z => sortU_mem).length_eq
theorem MvOk.len {se mv : List Int} (h : MvOk se mv) : mv.length ≤ se.length := nodup_sub_len h.nd h.sub
theorem sp_is_moved {i_is_from : Nat} (h1 : SpIsFrom (applyF fs i_is_from)) : SpIsMoved (evD fs gs fu 3 2 (PB_is_moved i_is_from)) := fun n ar cs tr pu se as mv q m => by
  have hc : cap = 100000 := rfl
  obtain ⟨l1, l2, l3, l4⟩ := q.lens
  have hm := m.len
  have k1 : (mv.any fun x => !(decide (0 ≤ x) && decide (x ≤ n - 1)) || !decide (x ∈ se)) = false := any_none fun x hx => by
    have h2 := m.sub x hx
    have h3 := q.sse.rng x h2
    simp [h2, h3]
  have k2 : lenSetW (.d (.tuple (mv.map PyData.int))) = some (.d (.int (mv.length : Nat))) := by
    unfold lenSetW seqW lenSetD
    simp only [intsD_ints]
    rw [if_pos (by omega), sortU_nodup m.nd]
  rw [d_run 3 2 _ _ rfl]
  simp [PB_is_moved, v_v, v_non, v_bl, v_int, v_str, v_gl, v_fn, v_tup, v_lst, v_dnew, v_bin, v_neg, v_cmp, v_chain, v_isN, v_notN, v_bop, v_b1, v_b2, v_not, v_ite, v_ix, v_sl, v_call, v_callk, v_callv, v_bi, v_isi, v_comp, itB, escB, l_nil, l_cons, o_nil, o_cons, c_nil', c_cons', i_of', i_rng1', i_rng2', i_enum', i_zip', i_rev', s_nil', s_cons', t_asg, t_par, t_ret, t_retN, t_ite, t_for, t_ex, t_put, t_app, t_ext, t_brk, t_cnt, cmpK, iteK, notK, bopK, tupK, lstK, iteS, asgK, parK, escE, escL, escI, dem, dem1, getN, binW, addW, mulW, int2, b1W, lenW, tupleW, listW, intW, isiW, ixW, cmpW, wBool, wInt, isNone, asgE, asgT, asgTs, Tg.is, TgL.is, wipeE, fresh, isBox, datas, W.data?, opt_some, opt_none, ↓M.bind_ret, M.bind_stuck, M.nox_ret, itOf, itEnum, itZip, itRev, ownAt, ownL, W.i, W.b, List.map_cons, List.map_nil, List.set, List.getElem?_cons_zero, List.getElem?_cons_succ, List.length_cons, List.length_nil, List.replicate, List.append_nil, List.nil_append, List.cons_append, ite_true, ite_false, Bool.false_eq_true, reduceCtorEq, if_true, if_false, seqK_nx, seqK_rt, seqK_bk, seqK_ct, finK_rt, finK_nx, parE, t_whl, t_pop, ↓M.bind_assoc, seqW, List.map_map, List.length_map, Nat.reduceAdd, Nat.reduceLT, Option.map_some, Bool.not_true, Bool.not_false, ordW_int, eqW_int, intB, Bool.and_self, Bool.false_and, Bool.and_false, Bool.true_and, Bool.and_true, Bool.or_false, Bool.false_or, Bool.true_or, Bool.or_true, decide_true, decide_false]
  refine (M.bind_eq (compR_fm (W.d ∘ PyData.int) (fun x => !(decide (0 ≤ x) && decide (x ≤ n - 1)) || !decide (x ∈ se)) (fun _ => .int 1) (by omega) fun y hy => by
    have a := h1 y 0 (n - 1)
    simp only [W.i, W.b] at a
    have h2 := m.sub y hy
    have h3 := q.sse.rng y h2
    simp [stepC, v_v, v_non, v_bl, v_int, v_str, v_gl, v_fn, v_tup, v_lst, v_dnew, v_bin, v_neg, v_cmp, v_chain, v_isN, v_notN, v_bop, v_b1, v_b2, v_not, v_ite, v_ix, v_sl, v_call, v_callk, v_callv, v_bi, v_isi, v_comp, itB, escB, l_nil, l_cons, o_nil, o_cons, c_nil', c_cons', i_of', i_rng1', i_rng2', i_enum', i_zip', i_rev', s_nil', s_cons', t_asg, t_par, t_ret, t_retN, t_ite, t_for, t_ex, t_put, t_app, t_ext, t_brk, t_cnt, cmpK, iteK, notK, bopK, tupK, lstK, iteS, asgK, parK, escE, escL, escI, dem, dem1, getN, binW, addW, mulW, int2, b1W, lenW, tupleW, listW, intW, isiW, ixW, cmpW, wBool, wInt, isNone, asgE, asgT, asgTs, Tg.is, TgL.is, wipeE, fresh, isBox, datas, W.data?, opt_some, opt_none, ↓M.bind_ret, M.bind_stuck, M.nox_ret, itOf, itEnum, itZip, itRev, ownAt, ownL, W.i, W.b, List.map_cons, List.map_nil, List.set, List.getElem?_cons_zero, List.getElem?_cons_succ, List.length_cons, List.length_nil, List.replicate, List.append_nil, List.nil_append, List.cons_append, ite_true, ite_false, Bool.false_eq_true, reduceCtorEq, if_true, if_false, seqK_nx, seqK_rt, seqK_bk, seqK_ct, finK_rt, finK_nx, parE, t_whl, t_pop, ↓M.bind_assoc, seqW, List.map_map, List.length_map, Nat.reduceAdd, Nat.reduceLT, Option.map_some, Bool.not_true, Bool.not_false, ordW_int, eqW_int, intB, Bool.and_self, Bool.false_and, Bool.and_false, Bool.true_and, Bool.and_true, Bool.or_false, Bool.false_or, Bool.true_or, Bool.or_true, decide_true, decide_false, at5_0, at5_3, at3_0, a, h2, h3])).trans ?_
  simp only [v_v, v_non, v_bl, v_int, v_str, v_gl, v_fn, v_tup, v_lst, v_dnew, v_bin, v_neg, v_cmp, v_chain, v_isN, v_notN, v_bop, v_b1, v_b2, v_not, v_ite, v_ix, v_sl, v_call, v_callk, v_callv, v_bi, v_isi, v_comp, itB, escB, l_nil, l_cons, o_nil, o_cons, c_nil', c_cons', i_of', i_rng1', i_rng2', i_enum', i_zip', i_rev', s_nil', s_cons', t_asg, t_par, t_ret, t_retN, t_ite, t_for, t_ex, t_put, t_app, t_ext, t_brk, t_cnt, cmpK, iteK, notK, bopK, tupK, lstK, iteS, asgK, parK, escE, escL, escI, dem, dem1, getN, binW, addW, mulW, int2, b1W, lenW, tupleW, listW, intW, isiW, ixW, cmpW, wBool, wInt, isNone, asgE, asgT, asgTs, Tg.is, TgL.is, wipeE, fresh, isBox, datas, W.data?, opt_some, opt_none, ↓M.bind_ret, M.bind_stuck, M.nox_ret, itOf, itEnum, itZip, itRev, ownAt, ownL, W.i, W.b, List.map_cons, List.map_nil, List.set, List.getElem?_cons_zero, List.getElem?_cons_succ, List.length_cons, List.length_nil, List.replicate, List.append_nil, List.nil_append, List.cons_append, ite_true, ite_false, Bool.false_eq_true, reduceCtorEq, if_true, if_false, seqK_nx, seqK_rt, seqK_bk, seqK_ct, finK_rt, finK_nx, parE, t_whl, t_pop, ↓M.bind_assoc, seqW, List.map_map, List.length_map, Nat.reduceAdd, Nat.reduceLT, Option.map_some, Bool.not_true, Bool.not_false, ordW_int, eqW_int, intB, Bool.and_self, Bool.false_and, Bool.and_false, Bool.true_and, Bool.and_true, Bool.or_false, Bool.false_or, Bool.true_or, Bool.or_true, decide_true, decide_false, len_pos, k1, k2]
theorem sp_check_moved {i_is_moved : Nat} (h1 : SpIsMoved (applyF fs i_is_moved)) : SpCheckMoved (evD fs gs fu 2 2 (PB_check_moved i_is_moved)) := fun n ar cs tr pu se as mv q m => by
  have a := h1 n ar cs tr pu se as mv q m
  rw [d_run 2 2 _ _ rfl]
  simp [PB_check_moved, v_v, v_non, v_bl, v_int, v_str, v_gl, v_fn, v_tup, v_lst, v_dnew, v_bin, v_neg, v_cmp, v_chain, v_isN, v_notN, v_bop, v_b1, v_b2, v_not, v_ite, v_ix, v_sl, v_call, v_callk, v_callv, v_bi, v_isi, v_comp, itB, escB, l_nil, l_cons, o_nil, o_cons, c_nil', c_cons', i_of', i_rng1', i_rng2', i_enum', i_zip', i_rev', s_nil', s_cons', t_asg, t_par, t_ret, t_retN, t_ite, t_for, t_ex, t_put, t_app, t_ext, t_brk, t_cnt, cmpK, iteK, notK, bopK, tupK, lstK, iteS, asgK, parK, escE, escL, escI, dem, dem1, getN, binW, addW, mulW, int2, b1W, lenW, tupleW, listW, intW, isiW, ixW, cmpW, wBool, wInt, isNone, asgE, asgT, asgTs, Tg.is, TgL.is, wipeE, fresh, isBox, datas, W.data?, opt_some, opt_none, ↓M.bind_ret, M.bind_stuck, M.nox_ret, itOf, itEnum, itZip, itRev, ownAt, ownL, W.i, W.b, List.map_cons, List.map_nil, List.set, List.getElem?_cons_zero, List.getElem?_cons_succ, List.length_cons, List.length_nil, List.replicate, List.append_nil, List.nil_append, List.cons_append, ite_true, ite_false, Bool.false_eq_true, reduceCtorEq, if_true, if_false, seqK_nx, seqK_rt, seqK_bk, seqK_ct, finK_rt, finK_nx, parE, t_whl, t_pop, ↓M.bind_assoc, seqW, List.map_map, List.length_map, Nat.reduceAdd, Nat.reduceLT, Option.map_some, Bool.not_true, Bool.not_false, ordW_int, eqW_int, intB, Bool.and_self, Bool.false_and, Bool.and_false, Bool.true_and, Bool.and_true, Bool.or_false, Bool.false_or, Bool.true_or, Bool.or_true, decide_true, decide_false, a]
theorem sp_goal_so {i_leading_so i_less_so i_every_so : Nat} (h1 : SpLeadSo (applyF fs i_leading_so)) (h2 : SpLess (applyF fs i_less_so)) (h3 : SpEvery (applyF fs i_every_so)) : SpGoalSo (evD fs gs fu 8 2 (PB_goal_so i_leading_so i_less_so i_every_so)) := fun n ar cs tr pu se as mv q hm => by
  have hc : cap = 100000 := rfl
  obtain ⟨l1, l2, l3, l4⟩ := q.lens
  have d0 := q.d.lo
  have d1 := q.d.hi
  have hu := upto_len' n
  have a1 := h3 n ar cs (by omega) (by omega)
  have a2 := h2 (upto n) (pu ++ mv) (by omega)
  have a3 := h2 se mv (by omega)
  have hfl : ((upto n).filter fun x => decide (x ∉ pu ++ mv)).length ≤ (upto n).length := List.length_filter_le _ _
  have hsl : (se.filter fun x => decide (x ∉ mv)).length ≤ se.length := List.length_filter_le _ _
  have a4 := h1 n ar cs ((upto n).filter fun x => decide (x ∉ pu ++ mv)) (se.filter (fun x => decide (x ∉ mv)) ++ as) ((asc_nodup' (upto_asc' n)).filter _) (by omega) q.d.ar.few
  show _ = M.ret (tI (leadL ar ((upto n).filter fun x => decide (x ∉ pu ++ mv)) (se.filter (fun x => decide (x ∉ mv)) ++ as)))
  have g1 : pu.length + mv.length ≤ cap := by omega
  have g2 : (se.filter fun x => decide (x ∉ mv)).length + as.length ≤ cap := by omega
  generalize ((upto n).filter fun x => decide (x ∉ pu ++ mv)) = fr at *
  generalize (se.filter fun x => decide (x ∉ mv)) = sm at *
  generalize leadL ar fr (sm ++ as) = res at *
  simp only [tI, drW, W.i, List.map_append] at a1 a2 a3 a4 ⊢
  rw [d_run 8 2 _ _ rfl]
  simp only [PB_goal_so, v_v, v_non, v_bl, v_int, v_str, v_gl, v_fn, v_tup, v_lst, v_dnew, v_bin, v_neg, v_cmp, v_chain, v_isN, v_notN, v_bop, v_b1, v_b2, v_not, v_ite, v_ix, v_sl, v_call, v_callk, v_callv, v_bi, v_isi, v_comp, itB, escB, l_nil, l_cons, o_nil, o_cons, c_nil', c_cons', i_of', i_rng1', i_rng2', i_enum', i_zip', i_rev', s_nil', s_cons', t_asg, t_par, t_ret, t_retN, t_ite, t_for, t_ex, t_put, t_app, t_ext, t_brk, t_cnt, cmpK, iteK, notK, bopK, tupK, lstK, iteS, asgK, parK, escE, escL, escI, dem, dem1, getN, binW, addW, mulW, int2, b1W, lenW, tupleW, listW, intW, isiW, ixW, cmpW, wBool, wInt, isNone, asgE, asgT, asgTs, Tg.is, TgL.is, wipeE, fresh, isBox, datas, W.data?, opt_some, opt_none, ↓M.bind_ret, M.bind_stuck, M.nox_ret, itOf, itEnum, itZip, itRev, ownAt, ownL, W.i, W.b, List.map_cons, List.map_nil, List.set, List.getElem?_cons_zero, List.getElem?_cons_succ, List.length_cons, List.length_nil, List.replicate, List.append_nil, List.nil_append, List.cons_append, ite_true, ite_false, Bool.false_eq_true, reduceCtorEq, if_true, if_false, seqK_nx, seqK_rt, seqK_bk, seqK_ct, finK_rt, finK_nx, parE, t_whl, t_pop, ↓M.bind_assoc, seqW, List.map_map, List.length_map, Nat.reduceAdd, Nat.reduceLT, Option.map_some, Bool.not_true, Bool.not_false, ordW_int, eqW_int, intB, Bool.and_self, Bool.false_and, Bool.and_false, Bool.true_and, Bool.and_true, Bool.or_false, Bool.false_or, Bool.true_or, Bool.or_true, decide_true, decide_false, a1, a2, a3, a4, g1, g2]
theorem sp_things_of {i_things_so i_check_question : Nat} (h1 : SpThings (applyF fs i_things_so)) (h2 : SpQuestion (applyF fs i_check_question)) : SpThings (evD fs gs fu 1 1 (PB_things_of i_things_so i_check_question)) := fun n ar cs tr pu se as q => by
  have a := h1 n ar cs tr pu se as q
  have b := h2 n ar cs tr pu se as q
  rw [d_run 1 1 _ _ rfl]
  simp [PB_things_of, v_v, v_non, v_bl, v_int, v_str, v_gl, v_fn, v_tup, v_lst, v_dnew, v_bin, v_neg, v_cmp, v_chain, v_isN, v_notN, v_bop, v_b1, v_b2, v_not, v_ite, v_ix, v_sl, v_call, v_callk, v_callv, v_bi, v_isi, v_comp, itB, escB, l_nil, l_cons, o_nil, o_cons, c_nil', c_cons', i_of', i_rng1', i_rng2', i_enum', i_zip', i_rev', s_nil', s_cons', t_asg, t_par, t_ret, t_retN, t_ite, t_for, t_ex, t_put, t_app, t_ext, t_brk, t_cnt, cmpK, iteK, notK, bopK, tupK, lstK, iteS, asgK, parK, escE, escL, escI, dem, dem1, getN, binW, addW, mulW, int2, b1W, lenW, tupleW, listW, intW, isiW, ixW, cmpW, wBool, wInt, isNone, asgE, asgT, asgTs, Tg.is, TgL.is, wipeE, fresh, isBox, datas, W.data?, opt_some, opt_none, ↓M.bind_ret, M.bind_stuck, M.nox_ret, itOf, itEnum, itZip, itRev, ownAt, ownL, W.i, W.b, List.map_cons, List.map_nil, List.set, List.getElem?_cons_zero, List.getElem?_cons_succ, List.length_cons, List.length_nil, List.replicate, List.append_nil, List.nil_append, List.cons_append, ite_true, ite_false, Bool.false_eq_true, reduceCtorEq, if_true, if_false, seqK_nx, seqK_rt, seqK_bk, seqK_ct, finK_rt, finK_nx, parE, t_whl, t_pop, ↓M.bind_assoc, seqW, List.map_map, List.length_map, Nat.reduceAdd, Nat.reduceLT, Option.map_some, Bool.not_true, Bool.not_false, ordW_int, eqW_int, intB, Bool.and_self, Bool.false_and, Bool.and_false, Bool.true_and, Bool.and_true, Bool.or_false, Bool.false_or, Bool.true_or, Bool.or_true, decide_true, decide_false, a, b]
theorem sp_goal {i_goal_so i_check_moved i_check_question : Nat} (h1 : SpGoalSo (applyF fs i_goal_so)) (h2 : SpCheckMoved (applyF fs i_check_moved)) (h3 : SpQuestion (applyF fs i_check_question)) : SpGoal (evD fs gs fu 2 2 (PB_goal i_goal_so i_check_moved i_check_question)) := fun n ar cs tr pu se as mv q m => by
  have a := h1 n ar cs tr pu se as mv q (by have := q.lens; have := m.len; omega)
  have b := h2 n ar cs tr pu se as mv q m
  have c := h3 n ar cs tr pu se as q
  rw [d_run 2 2 _ _ rfl]
  simp [PB_goal, v_v, v_non, v_bl, v_int, v_str, v_gl, v_fn, v_tup, v_lst, v_dnew, v_bin, v_neg, v_cmp, v_chain, v_isN, v_notN, v_bop, v_b1, v_b2, v_not, v_ite, v_ix, v_sl, v_call, v_callk, v_callv, v_bi, v_isi, v_comp, itB, escB, l_nil, l_cons, o_nil, o_cons, c_nil', c_cons', i_of', i_rng1', i_rng2', i_enum', i_zip', i_rev', s_nil', s_cons', t_asg, t_par, t_ret, t_retN, t_ite, t_for, t_ex, t_put, t_app, t_ext, t_brk, t_cnt, cmpK, iteK, notK, bopK, tupK, lstK, iteS, asgK, parK, escE, escL, escI, dem, dem1, getN, binW, addW, mulW, int2, b1W, lenW, tupleW, listW, intW, isiW, ixW, cmpW, wBool, wInt, isNone, asgE, asgT, asgTs, Tg.is, TgL.is, wipeE, fresh, isBox, datas, W.data?, opt_some, opt_none, ↓M.bind_ret, M.bind_stuck, M.nox_ret, itOf, itEnum, itZip, itRev, ownAt, ownL, W.i, W.b, List.map_cons, List.map_nil, List.set, List.getElem?_cons_zero, List.getElem?_cons_succ, List.length_cons, List.length_nil, List.replicate, List.append_nil, List.nil_append, List.cons_append, ite_true, ite_false, Bool.false_eq_true, reduceCtorEq, if_true, if_false, seqK_nx, seqK_rt, seqK_bk, seqK_ct, finK_rt, finK_nx, parE, t_whl, t_pop, ↓M.bind_assoc, seqW, List.map_map, List.length_map, Nat.reduceAdd, Nat.reduceLT, Option.map_some, Bool.not_true, Bool.not_false, ordW_int, eqW_int, intB, Bool.and_self, Bool.false_and, Bool.and_false, Bool.true_and, Bool.and_true, Bool.or_false, Bool.false_or, Bool.true_or, Bool.or_true, decide_true, decide_false, a, b, c]
end
end DS

set_option Elab.async false
set_option linter.all false
set_option autoImplicit false
set_option maxRecDepth 100000
set_option maxHeartbeats 8000000
/-! DP14: questions that are drawn. -/
namespace DS
open PySem PySem.Spec PySem.SeqAt PyProof.Rows L2
/-- the places of a number -/
def posL (ks : List Int) (t : Int) : List Int := (ks.zipIdx.filter fun p => decide (p.1 = t)).map fun p => (p.2 : Int)
theorem posL_mem {ks : List Int} {t x : Int} : x ∈ posL ks t ↔ ∃ i : Nat, x = (i : Int) ∧ ks[i]? = some t := by
  unfold posL
  rw [List.mem_map]
  constructor
  · rintro ⟨⟨k, i⟩, h, rfl⟩
    obtain ⟨h1, h2⟩ := List.mem_filter.mp h
    have h2 : k = t := of_decide_eq_true h2
    subst h2
    exact ⟨i, rfl, List.mem_zipIdx_iff_getElem?.mp h1⟩
  · rintro ⟨i, rfl, h⟩
    exact ⟨(t, i), List.mem_filter.mpr ⟨List.mem_zipIdx_iff_getElem?.mpr h, decide_eq_true rfl⟩, rfl⟩
theorem zipIdx_asc {α : Type} (l : List α) : l.zipIdx.Pairwise fun p q => p.2 < q.2 := by
  have h : (l.zipIdx.map (·.2)).Pairwise (· < ·) := by
    rw [List.zipIdx_map_snd]
    exact List.pairwise_lt_range'
  exact List.pairwise_map.mp h
theorem posL_asc (ks : List Int) (t : Int) : (posL ks t).Pairwise (· < ·) := by
  unfold posL
  rw [List.pairwise_map]
  exact ((zipIdx_asc ks).sublist List.filter_sublist).imp fun h => by omega
theorem posL_set {n : Int} {ks : List Int} (t : Int) (hl : ks.length = n.toNat) (h0 : 0 ≤ n) (hn : n ≤ 100) : SetOk (n - 1) (posL ks t) := by
  have hc : cap = 100000 := rfl
  have hr : ∀ x ∈ posL ks t, 0 ≤ x ∧ x ≤ n - 1 := fun x hx => by
    obtain ⟨i, rfl, hi⟩ := posL_mem.mp hx
    have := get_lt' hi
    omega
  refine ⟨hr, posL_asc _ _, ?_⟩
  have := nodup_sub_len (asc_nodup' (posL_asc ks t)) (m := upto n) fun x hx => by
    have := hr x hx
    exact upto_mem'.mpr (by omega)
  have := upto_len' n
  omega
theorem posL_dis {ks : List Int} {s t x : Int} (h : s ≠ t) (hx : x ∈ posL ks s) : x ∉ posL ks t := fun z => by
  obtain ⟨i, rfl, hi⟩ := posL_mem.mp hx
  obtain ⟨j, e, hj⟩ := posL_mem.mp z
  have : i = j := by omega
  subst this
  rw [hi] at hj
  exact h (Option.some.inj hj)
structure IsQu (n : Int) (ar : List (Int × Int)) (cs : List (List Int)) (w : W) : Prop where
  ex : ∃ tr pu se as, w = quW n ar cs tr pu se as ∧ QuOk n ar cs tr pu se as
structure SlQuestion (F : Fn1) : Prop where
  ok : ∀ n ar cs, DrOk n ar cs → Ok 30 (F [.tok, drW n ar cs]) (IsQu n ar cs)
section
variable {fs : Fns} {gs : List W} {fu : Nat}
theorem sl_question_1 {i1 : Nat} {k1 k2 : Int} (hd : SpDraw (applyF fs i1)) (o1 : Odd k1) (o2 : Odd k2) : SlQuestion (evD fs gs fu 8 2 (PL_question_1 i1 k1 k2)) := .mk fun n ar cs d => by
  have hc : cap = 100000 := rfl
  have d0 := d.lo
  have d1 := d.hi
  have hu := upto_len' n
  rw [d_run 8 2 _ _ rfl]
  simp only [PL_question_1, v_v, v_non, v_bl, v_int, v_str, v_gl, v_fn, v_tup, v_lst, v_dnew, v_bin, v_neg, v_cmp, v_chain, v_isN, v_notN, v_bop, v_b1, v_b2, v_not, v_ite, v_ix, v_sl, v_call, v_callk, v_callv, v_bi, v_isi, v_comp, itB, escB, l_nil, l_cons, o_nil, o_cons, c_nil', c_cons', i_of', i_rng1', i_rng2', i_enum', i_zip', i_rev', s_nil', s_cons', t_asg, t_par, t_ret, t_retN, t_ite, t_for, t_ex, t_put, t_app, t_ext, t_brk, t_cnt, cmpK, iteK, notK, bopK, tupK, lstK, iteS, asgK, parK, escE, escL, escI, dem, dem1, getN, binW, addW, mulW, int2, b1W, lenW, tupleW, listW, intW, isiW, ixW, cmpW, wBool, wInt, isNone, asgE, asgT, asgTs, Tg.is, TgL.is, wipeE, fresh, isBox, datas, W.data?, opt_some, opt_none, ↓M.bind_ret, M.bind_stuck, M.nox_ret, itOf, itEnum, itZip, itRev, ownAt, ownL, W.i, W.b, List.map_cons, List.map_nil, List.set, List.getElem?_cons_zero, List.getElem?_cons_succ, List.length_cons, List.length_nil, List.replicate, List.append_nil, List.nil_append, List.cons_append, ite_true, ite_false, Bool.false_eq_true, reduceCtorEq, if_true, if_false, seqK_nx, seqK_rt, seqK_bk, seqK_ct, finK_rt, finK_nx, parE, t_whl, t_pop, ↓M.bind_assoc, seqW, List.map_map, List.length_map, Nat.reduceAdd, Nat.reduceLT, Option.map_some, Bool.not_true, Bool.not_false, ordW_int, eqW_int, intB, Bool.and_self, Bool.false_and, Bool.and_false, Bool.true_and, Bool.and_true, Bool.or_false, Bool.false_or, Bool.true_or, Bool.or_true, decide_true, decide_false, at3_0, itRng_up (b := n) (by omega) (by omega)]
  refine Ok.compD (b1 := 1) (b2 := 20) (W.d ∘ PyData.int) PyData.int (fun _ _ => True) (by omega) (fun x hx => ?_) (by omega) fun ks hks => ?_
  · simp only [stepC, v_v, v_non, v_bl, v_int, v_str, v_gl, v_fn, v_tup, v_lst, v_dnew, v_bin, v_neg, v_cmp, v_chain, v_isN, v_notN, v_bop, v_b1, v_b2, v_not, v_ite, v_ix, v_sl, v_call, v_callk, v_callv, v_bi, v_isi, v_comp, itB, escB, l_nil, l_cons, o_nil, o_cons, c_nil', c_cons', i_of', i_rng1', i_rng2', i_enum', i_zip', i_rev', s_nil', s_cons', t_asg, t_par, t_ret, t_retN, t_ite, t_for, t_ex, t_put, t_app, t_ext, t_brk, t_cnt, cmpK, iteK, notK, bopK, tupK, lstK, iteS, asgK, parK, escE, escL, escI, dem, dem1, getN, binW, addW, mulW, int2, b1W, lenW, tupleW, listW, intW, isiW, ixW, cmpW, wBool, wInt, isNone, asgE, asgT, asgTs, Tg.is, TgL.is, wipeE, fresh, isBox, datas, W.data?, opt_some, opt_none, ↓M.bind_ret, M.bind_stuck, M.nox_ret, itOf, itEnum, itZip, itRev, ownAt, ownL, W.i, W.b, List.map_cons, List.map_nil, List.set, List.getElem?_cons_zero, List.getElem?_cons_succ, List.length_cons, List.length_nil, List.replicate, List.append_nil, List.nil_append, List.cons_append, ite_true, ite_false, Bool.false_eq_true, reduceCtorEq, if_true, if_false, seqK_nx, seqK_rt, seqK_bk, seqK_ct, finK_rt, finK_nx, parE, t_whl, t_pop, ↓M.bind_assoc, seqW, List.map_map, List.length_map, Nat.reduceAdd, Nat.reduceLT, Option.map_some, Bool.not_true, Bool.not_false, ordW_int, eqW_int, intB, Bool.and_self, Bool.false_and, Bool.and_false, Bool.true_and, Bool.and_true, Bool.or_false, Bool.false_or, Bool.true_or, Bool.or_true, decide_true, decide_false]
    exact Ok.dr (b := 0) hd o2.1 (by omega) (by omega) fun k _ _ => by
      simp only [v_v, v_non, v_bl, v_int, v_str, v_gl, v_fn, v_tup, v_lst, v_dnew, v_bin, v_neg, v_cmp, v_chain, v_isN, v_notN, v_bop, v_b1, v_b2, v_not, v_ite, v_ix, v_sl, v_call, v_callk, v_callv, v_bi, v_isi, v_comp, itB, escB, l_nil, l_cons, o_nil, o_cons, c_nil', c_cons', i_of', i_rng1', i_rng2', i_enum', i_zip', i_rev', s_nil', s_cons', t_asg, t_par, t_ret, t_retN, t_ite, t_for, t_ex, t_put, t_app, t_ext, t_brk, t_cnt, cmpK, iteK, notK, bopK, tupK, lstK, iteS, asgK, parK, escE, escL, escI, dem, dem1, getN, binW, addW, mulW, int2, b1W, lenW, tupleW, listW, intW, isiW, ixW, cmpW, wBool, wInt, isNone, asgE, asgT, asgTs, Tg.is, TgL.is, wipeE, fresh, isBox, datas, W.data?, opt_some, opt_none, ↓M.bind_ret, M.bind_stuck, M.nox_ret, itOf, itEnum, itZip, itRev, ownAt, ownL, W.i, W.b, List.map_cons, List.map_nil, List.set, List.getElem?_cons_zero, List.getElem?_cons_succ, List.length_cons, List.length_nil, List.replicate, List.append_nil, List.nil_append, List.cons_append, ite_true, ite_false, Bool.false_eq_true, reduceCtorEq, if_true, if_false, seqK_nx, seqK_rt, seqK_bk, seqK_ct, finK_rt, finK_nx, parE, t_whl, t_pop, ↓M.bind_assoc, seqW, List.map_map, List.length_map, Nat.reduceAdd, Nat.reduceLT, Option.map_some, Bool.not_true, Bool.not_false, ordW_int, eqW_int, intB, Bool.and_self, Bool.false_and, Bool.and_false, Bool.true_and, Bool.and_true, Bool.or_false, Bool.false_or, Bool.true_or, Bool.or_true, decide_true, decide_false]
      exact Ok.ret ⟨k, rfl, trivial⟩
  · have hkl := hks.len
    simp only [v_v, v_non, v_bl, v_int, v_str, v_gl, v_fn, v_tup, v_lst, v_dnew, v_bin, v_neg, v_cmp, v_chain, v_isN, v_notN, v_bop, v_b1, v_b2, v_not, v_ite, v_ix, v_sl, v_call, v_callk, v_callv, v_bi, v_isi, v_comp, itB, escB, l_nil, l_cons, o_nil, o_cons, c_nil', c_cons', i_of', i_rng1', i_rng2', i_enum', i_zip', i_rev', s_nil', s_cons', t_asg, t_par, t_ret, t_retN, t_ite, t_for, t_ex, t_put, t_app, t_ext, t_brk, t_cnt, cmpK, iteK, notK, bopK, tupK, lstK, iteS, asgK, parK, escE, escL, escI, dem, dem1, getN, binW, addW, mulW, int2, b1W, lenW, tupleW, listW, intW, isiW, ixW, cmpW, wBool, wInt, isNone, asgE, asgT, asgTs, Tg.is, TgL.is, wipeE, fresh, isBox, datas, W.data?, opt_some, opt_none, ↓M.bind_ret, M.bind_stuck, M.nox_ret, itOf, itEnum, itZip, itRev, ownAt, ownL, W.i, W.b, List.map_cons, List.map_nil, List.set, List.getElem?_cons_zero, List.getElem?_cons_succ, List.length_cons, List.length_nil, List.replicate, List.append_nil, List.nil_append, List.cons_append, ite_true, ite_false, Bool.false_eq_true, reduceCtorEq, if_true, if_false, seqK_nx, seqK_rt, seqK_bk, seqK_ct, finK_rt, finK_nx, parE, t_whl, t_pop, ↓M.bind_assoc, seqW, List.map_map, List.length_map, Nat.reduceAdd, Nat.reduceLT, Option.map_some, Bool.not_true, Bool.not_false, ordW_int, eqW_int, intB, Bool.and_self, Bool.false_and, Bool.and_false, Bool.true_and, Bool.and_true, Bool.or_false, Bool.false_or, Bool.true_or, Bool.or_true, decide_true, decide_false, at3_0]
    refine Ok.dr (b := 15) hd (by omega) (by omega) (by omega) fun p p0 p1 => ?_
    obtain ⟨j, rfl⟩ := Int.eq_ofNat_of_zero_le p0
    have hj : j < ks.length := by omega
    have ej : ixN ks.length (j : Int) = some j := by
      unfold ixN
      rw [if_pos p0, if_pos (by omega)]
      simp
    have es : (ks.map PyData.int).set j (.int 2) = (ks.set j 2).map PyData.int := (List.map_set ..).symm
    have hl2 : (ks.set j 2).length = n.toNat := by rw [List.length_set]; omega
    have hm2 : 2 ∈ ks.set j 2 := List.mem_set hj 2
    simp only [v_v, v_non, v_bl, v_int, v_str, v_gl, v_fn, v_tup, v_lst, v_dnew, v_bin, v_neg, v_cmp, v_chain, v_isN, v_notN, v_bop, v_b1, v_b2, v_not, v_ite, v_ix, v_sl, v_call, v_callk, v_callv, v_bi, v_isi, v_comp, itB, escB, l_nil, l_cons, o_nil, o_cons, c_nil', c_cons', i_of', i_rng1', i_rng2', i_enum', i_zip', i_rev', s_nil', s_cons', t_asg, t_par, t_ret, t_retN, t_ite, t_for, t_ex, t_put, t_app, t_ext, t_brk, t_cnt, cmpK, iteK, notK, bopK, tupK, lstK, iteS, asgK, parK, escE, escL, escI, dem, dem1, getN, binW, addW, mulW, int2, b1W, lenW, tupleW, listW, intW, isiW, ixW, cmpW, wBool, wInt, isNone, asgE, asgT, asgTs, Tg.is, TgL.is, wipeE, fresh, isBox, datas, W.data?, opt_some, opt_none, ↓M.bind_ret, M.bind_stuck, M.nox_ret, itOf, itEnum, itZip, itRev, ownAt, ownL, W.i, W.b, List.map_cons, List.map_nil, List.set, List.getElem?_cons_zero, List.getElem?_cons_succ, List.length_cons, List.length_nil, List.replicate, List.append_nil, List.nil_append, List.cons_append, ite_true, ite_false, Bool.false_eq_true, reduceCtorEq, if_true, if_false, seqK_nx, seqK_rt, seqK_bk, seqK_ct, finK_rt, finK_nx, parE, t_whl, t_pop, ↓M.bind_assoc, seqW, List.map_map, List.length_map, Nat.reduceAdd, Nat.reduceLT, Option.map_some, Bool.not_true, Bool.not_false, ordW_int, eqW_int, intB, Bool.and_self, Bool.false_and, Bool.and_false, Bool.true_and, Bool.and_true, Bool.or_false, Bool.false_or, Bool.true_or, Bool.or_true, decide_true, decide_false, putW, ej, es, itRng_up (b := 3) (by omega) (by omega)]
    generalize ks.set j 2 = qs at *
    have hne : posL qs 2 ≠ [] := fun z => by
      obtain ⟨i, hi, e⟩ := List.getElem_of_mem hm2
      have : (i : Int) ∈ posL qs 2 := posL_mem.mpr ⟨i, rfl, by rw [List.getElem?_eq_getElem hi, e]⟩
      rw [z] at this
      simp at this
    have s0 := posL_set 0 hl2 (by omega) (by omega)
    have s1 := posL_set 1 hl2 (by omega) (by omega)
    have s2 := posL_set 2 hl2 (by omega) (by omega)
    have d1 : ∀ x ∈ posL qs 1, x ∉ posL qs 0 := fun x => posL_dis (by omega)
    have d2 : ∀ x ∈ posL qs 2, x ∉ posL qs 0 := fun x => posL_dis (by omega)
    have d3 : ∀ x ∈ posL qs 2, x ∉ posL qs 1 := fun x => posL_dis (by omega)
    have hu3 : (upto 3).length ≤ cap := by decide
    refine Ok.eqs (compR_all (W.d ∘ PyData.int) (fun t => csD (posL qs t)) hu3 fun t ht => ?_) ?_
    · simp only [stepC, v_v, v_non, v_bl, v_int, v_str, v_gl, v_fn, v_tup, v_lst, v_dnew, v_bin, v_neg, v_cmp, v_chain, v_isN, v_notN, v_bop, v_b1, v_b2, v_not, v_ite, v_ix, v_sl, v_call, v_callk, v_callv, v_bi, v_isi, v_comp, itB, escB, l_nil, l_cons, o_nil, o_cons, c_nil', c_cons', i_of', i_rng1', i_rng2', i_enum', i_zip', i_rev', s_nil', s_cons', t_asg, t_par, t_ret, t_retN, t_ite, t_for, t_ex, t_put, t_app, t_ext, t_brk, t_cnt, cmpK, iteK, notK, bopK, tupK, lstK, iteS, asgK, parK, escE, escL, escI, dem, dem1, getN, binW, addW, mulW, int2, b1W, lenW, tupleW, listW, intW, isiW, ixW, cmpW, wBool, wInt, isNone, asgE, asgT, asgTs, Tg.is, TgL.is, wipeE, fresh, isBox, datas, W.data?, opt_some, opt_none, ↓M.bind_ret, M.bind_stuck, M.nox_ret, itOf, itEnum, itZip, itRev, ownAt, ownL, W.i, W.b, List.map_cons, List.map_nil, List.set, List.getElem?_cons_zero, List.getElem?_cons_succ, List.length_cons, List.length_nil, List.replicate, List.append_nil, List.nil_append, List.cons_append, ite_true, ite_false, Bool.false_eq_true, reduceCtorEq, if_true, if_false, seqK_nx, seqK_rt, seqK_bk, seqK_ct, finK_rt, finK_nx, parE, t_whl, t_pop, ↓M.bind_assoc, seqW, List.map_map, List.length_map, Nat.reduceAdd, Nat.reduceLT, Option.map_some, Bool.not_true, Bool.not_false, ordW_int, eqW_int, intB, Bool.and_self, Bool.false_and, Bool.and_false, Bool.true_and, Bool.and_true, Bool.or_false, Bool.false_or, Bool.true_or, Bool.or_true, decide_true, decide_false, enumD_map]
      refine (M.bind_eq (compR_fm (fun p : Int × Nat => W.d (.tuple [.int (p.2 : Nat), .int p.1])) (fun p => decide (p.1 = t)) (fun p => .int (p.2 : Nat)) (by rw [List.length_zipIdx]; omega) fun p hp => by by_cases q : p.1 = t <;> simp [stepC, v_v, v_non, v_bl, v_int, v_str, v_gl, v_fn, v_tup, v_lst, v_dnew, v_bin, v_neg, v_cmp, v_chain, v_isN, v_notN, v_bop, v_b1, v_b2, v_not, v_ite, v_ix, v_sl, v_call, v_callk, v_callv, v_bi, v_isi, v_comp, itB, escB, l_nil, l_cons, o_nil, o_cons, c_nil', c_cons', i_of', i_rng1', i_rng2', i_enum', i_zip', i_rev', s_nil', s_cons', t_asg, t_par, t_ret, t_retN, t_ite, t_for, t_ex, t_put, t_app, t_ext, t_brk, t_cnt, cmpK, iteK, notK, bopK, tupK, lstK, iteS, asgK, parK, escE, escL, escI, dem, dem1, getN, binW, addW, mulW, int2, b1W, lenW, tupleW, listW, intW, isiW, ixW, cmpW, wBool, wInt, isNone, asgE, asgT, asgTs, Tg.is, TgL.is, wipeE, fresh, isBox, datas, W.data?, opt_some, opt_none, ↓M.bind_ret, M.bind_stuck, M.nox_ret, itOf, itEnum, itZip, itRev, ownAt, ownL, W.i, W.b, List.map_cons, List.map_nil, List.set, List.getElem?_cons_zero, List.getElem?_cons_succ, List.length_cons, List.length_nil, List.replicate, List.append_nil, List.nil_append, List.cons_append, ite_true, ite_false, Bool.false_eq_true, reduceCtorEq, if_true, if_false, seqK_nx, seqK_rt, seqK_bk, seqK_ct, finK_rt, finK_nx, parE, t_whl, t_pop, ↓M.bind_assoc, seqW, List.map_map, List.length_map, Nat.reduceAdd, Nat.reduceLT, Option.map_some, Bool.not_true, Bool.not_false, ordW_int, eqW_int, intB, Bool.and_self, Bool.false_and, Bool.and_false, Bool.true_and, Bool.and_true, Bool.or_false, Bool.false_or, Bool.true_or, Bool.or_true, decide_true, decide_false, q])).trans ?_
      simp only [v_v, v_non, v_bl, v_int, v_str, v_gl, v_fn, v_tup, v_lst, v_dnew, v_bin, v_neg, v_cmp, v_chain, v_isN, v_notN, v_bop, v_b1, v_b2, v_not, v_ite, v_ix, v_sl, v_call, v_callk, v_callv, v_bi, v_isi, v_comp, itB, escB, l_nil, l_cons, o_nil, o_cons, c_nil', c_cons', i_of', i_rng1', i_rng2', i_enum', i_zip', i_rev', s_nil', s_cons', t_asg, t_par, t_ret, t_retN, t_ite, t_for, t_ex, t_put, t_app, t_ext, t_brk, t_cnt, cmpK, iteK, notK, bopK, tupK, lstK, iteS, asgK, parK, escE, escL, escI, dem, dem1, getN, binW, addW, mulW, int2, b1W, lenW, tupleW, listW, intW, isiW, ixW, cmpW, wBool, wInt, isNone, asgE, asgT, asgTs, Tg.is, TgL.is, wipeE, fresh, isBox, datas, W.data?, opt_some, opt_none, ↓M.bind_ret, M.bind_stuck, M.nox_ret, itOf, itEnum, itZip, itRev, ownAt, ownL, W.i, W.b, List.map_cons, List.map_nil, List.set, List.getElem?_cons_zero, List.getElem?_cons_succ, List.length_cons, List.length_nil, List.replicate, List.append_nil, List.nil_append, List.cons_append, ite_true, ite_false, Bool.false_eq_true, reduceCtorEq, if_true, if_false, seqK_nx, seqK_rt, seqK_bk, seqK_ct, finK_rt, finK_nx, parE, t_whl, t_pop, ↓M.bind_assoc, seqW, List.map_map, List.length_map, Nat.reduceAdd, Nat.reduceLT, Option.map_some, Bool.not_true, Bool.not_false, ordW_int, eqW_int, intB, Bool.and_self, Bool.false_and, Bool.and_false, Bool.true_and, Bool.and_true, Bool.or_false, Bool.false_or, Bool.true_or, Bool.or_true, decide_true, decide_false, posL, csD]
      rfl
    · have e3 : (upto 3).map (fun t => csD (posL qs t)) = [csD (posL qs 0), csD (posL qs 1), csD (posL qs 2)] := rfl
      rw [e3]
      have l0 := set_len s0
      generalize posL qs 0 = pu at *
      generalize posL qs 1 = se at *
      generalize posL qs 2 = as at *
      have f0 : ∀ a b c : PyData, atI [a, b, c] 0 = some a := fun _ _ _ => rfl
      simp only [v_v, v_non, v_bl, v_int, v_str, v_gl, v_fn, v_tup, v_lst, v_dnew, v_bin, v_neg, v_cmp, v_chain, v_isN, v_notN, v_bop, v_b1, v_b2, v_not, v_ite, v_ix, v_sl, v_call, v_callk, v_callv, v_bi, v_isi, v_comp, itB, escB, l_nil, l_cons, o_nil, o_cons, c_nil', c_cons', i_of', i_rng1', i_rng2', i_enum', i_zip', i_rev', s_nil', s_cons', t_asg, t_par, t_ret, t_retN, t_ite, t_for, t_ex, t_put, t_app, t_ext, t_brk, t_cnt, cmpK, iteK, notK, bopK, tupK, lstK, iteS, asgK, parK, escE, escL, escI, dem, dem1, getN, binW, addW, mulW, int2, b1W, lenW, tupleW, listW, intW, isiW, ixW, cmpW, wBool, wInt, isNone, asgE, asgT, asgTs, Tg.is, TgL.is, wipeE, fresh, isBox, datas, W.data?, opt_some, opt_none, ↓M.bind_ret, M.bind_stuck, M.nox_ret, itOf, itEnum, itZip, itRev, ownAt, ownL, W.i, W.b, List.map_cons, List.map_nil, List.set, List.getElem?_cons_zero, List.getElem?_cons_succ, List.length_cons, List.length_nil, List.replicate, List.append_nil, List.nil_append, List.cons_append, ite_true, ite_false, Bool.false_eq_true, reduceCtorEq, if_true, if_false, seqK_nx, seqK_rt, seqK_bk, seqK_ct, finK_rt, finK_nx, parE, t_whl, t_pop, ↓M.bind_assoc, seqW, List.map_map, List.length_map, Nat.reduceAdd, Nat.reduceLT, Option.map_some, Bool.not_true, Bool.not_false, ordW_int, eqW_int, intB, Bool.and_self, Bool.false_and, Bool.and_false, Bool.true_and, Bool.and_true, Bool.or_false, Bool.false_or, Bool.true_or, Bool.or_true, decide_true, decide_false, at3_0, csD]
      refine Ok.compF (b2 := 0) (W.d ∘ PyData.int) PyData.int (by omega) (fun x hx => ?_) (by omega) fun tr hz => ?_
      · simp only [stepC, v_v, v_non, v_bl, v_int, v_str, v_gl, v_fn, v_tup, v_lst, v_dnew, v_bin, v_neg, v_cmp, v_chain, v_isN, v_notN, v_bop, v_b1, v_b2, v_not, v_ite, v_ix, v_sl, v_call, v_callk, v_callv, v_bi, v_isi, v_comp, itB, escB, l_nil, l_cons, o_nil, o_cons, c_nil', c_cons', i_of', i_rng1', i_rng2', i_enum', i_zip', i_rev', s_nil', s_cons', t_asg, t_par, t_ret, t_retN, t_ite, t_for, t_ex, t_put, t_app, t_ext, t_brk, t_cnt, cmpK, iteK, notK, bopK, tupK, lstK, iteS, asgK, parK, escE, escL, escI, dem, dem1, getN, binW, addW, mulW, int2, b1W, lenW, tupleW, listW, intW, isiW, ixW, cmpW, wBool, wInt, isNone, asgE, asgT, asgTs, Tg.is, TgL.is, wipeE, fresh, isBox, datas, W.data?, opt_some, opt_none, ↓M.bind_ret, M.bind_stuck, M.nox_ret, itOf, itEnum, itZip, itRev, ownAt, ownL, W.i, W.b, List.map_cons, List.map_nil, List.set, List.getElem?_cons_zero, List.getElem?_cons_succ, List.length_cons, List.length_nil, List.replicate, List.append_nil, List.nil_append, List.cons_append, ite_true, ite_false, Bool.false_eq_true, reduceCtorEq, if_true, if_false, seqK_nx, seqK_rt, seqK_bk, seqK_ct, finK_rt, finK_nx, parE, t_whl, t_pop, ↓M.bind_assoc, seqW, List.map_map, List.length_map, Nat.reduceAdd, Nat.reduceLT, Option.map_some, Bool.not_true, Bool.not_false, ordW_int, eqW_int, intB, Bool.and_self, Bool.false_and, Bool.and_false, Bool.true_and, Bool.and_true, Bool.or_false, Bool.false_or, Bool.true_or, Bool.or_true, decide_true, decide_false]
        exact Ok.dr (b := 0) hd o1.1 (by omega) (by omega) fun k _ _ => by
          by_cases q : k = 0 <;> simp only [q, v_v, v_non, v_bl, v_int, v_str, v_gl, v_fn, v_tup, v_lst, v_dnew, v_bin, v_neg, v_cmp, v_chain, v_isN, v_notN, v_bop, v_b1, v_b2, v_not, v_ite, v_ix, v_sl, v_call, v_callk, v_callv, v_bi, v_isi, v_comp, itB, escB, l_nil, l_cons, o_nil, o_cons, c_nil', c_cons', i_of', i_rng1', i_rng2', i_enum', i_zip', i_rev', s_nil', s_cons', t_asg, t_par, t_ret, t_retN, t_ite, t_for, t_ex, t_put, t_app, t_ext, t_brk, t_cnt, cmpK, iteK, notK, bopK, tupK, lstK, iteS, asgK, parK, escE, escL, escI, dem, dem1, getN, binW, addW, mulW, int2, b1W, lenW, tupleW, listW, intW, isiW, ixW, cmpW, wBool, wInt, isNone, asgE, asgT, asgTs, Tg.is, TgL.is, wipeE, fresh, isBox, datas, W.data?, opt_some, opt_none, ↓M.bind_ret, M.bind_stuck, M.nox_ret, itOf, itEnum, itZip, itRev, ownAt, ownL, W.i, W.b, List.map_cons, List.map_nil, List.set, List.getElem?_cons_zero, List.getElem?_cons_succ, List.length_cons, List.length_nil, List.replicate, List.append_nil, List.nil_append, List.cons_append, ite_true, ite_false, Bool.false_eq_true, reduceCtorEq, if_true, if_false, seqK_nx, seqK_rt, seqK_bk, seqK_ct, finK_rt, finK_nx, parE, t_whl, t_pop, ↓M.bind_assoc, seqW, List.map_map, List.length_map, Nat.reduceAdd, Nat.reduceLT, Option.map_some, Bool.not_true, Bool.not_false, ordW_int, eqW_int, intB, Bool.and_self, Bool.false_and, Bool.and_false, Bool.true_and, Bool.and_true, Bool.or_false, Bool.false_or, Bool.true_or, Bool.or_true, decide_true, decide_false] <;> exact Ok.ret (by simp)
      · simp only [v_v, v_non, v_bl, v_int, v_str, v_gl, v_fn, v_tup, v_lst, v_dnew, v_bin, v_neg, v_cmp, v_chain, v_isN, v_notN, v_bop, v_b1, v_b2, v_not, v_ite, v_ix, v_sl, v_call, v_callk, v_callv, v_bi, v_isi, v_comp, itB, escB, l_nil, l_cons, o_nil, o_cons, c_nil', c_cons', i_of', i_rng1', i_rng2', i_enum', i_zip', i_rev', s_nil', s_cons', t_asg, t_par, t_ret, t_retN, t_ite, t_for, t_ex, t_put, t_app, t_ext, t_brk, t_cnt, cmpK, iteK, notK, bopK, tupK, lstK, iteS, asgK, parK, escE, escL, escI, dem, dem1, getN, binW, addW, mulW, int2, b1W, lenW, tupleW, listW, intW, isiW, ixW, cmpW, wBool, wInt, isNone, asgE, asgT, asgTs, Tg.is, TgL.is, wipeE, fresh, isBox, datas, W.data?, opt_some, opt_none, ↓M.bind_ret, M.bind_stuck, M.nox_ret, itOf, itEnum, itZip, itRev, ownAt, ownL, W.i, W.b, List.map_cons, List.map_nil, List.set, List.getElem?_cons_zero, List.getElem?_cons_succ, List.length_cons, List.length_nil, List.replicate, List.append_nil, List.nil_append, List.cons_append, ite_true, ite_false, Bool.false_eq_true, reduceCtorEq, if_true, if_false, seqK_nx, seqK_rt, seqK_bk, seqK_ct, finK_rt, finK_nx, parE, t_whl, t_pop, ↓M.bind_assoc, seqW, List.map_map, List.length_map, Nat.reduceAdd, Nat.reduceLT, Option.map_some, Bool.not_true, Bool.not_false, ordW_int, eqW_int, intB, Bool.and_self, Bool.false_and, Bool.and_false, Bool.true_and, Bool.and_true, Bool.or_false, Bool.false_or, Bool.true_or, Bool.or_true, decide_true, decide_false, at3_0, at3_1, at3_2]
        exact Ok.ret ⟨tr, pu, se, as, rfl, ⟨d, ⟨fun x hx => s0.rng x (hz.subset hx), s0.asc.sublist hz, Nat.le_trans hz.length_le s0.few⟩, s0, s1, s2, hne, fun x hx => hz.subset hx, d1, d2, d3⟩⟩
end
end DS

set_option Elab.async false
set_option linter.all false
set_option maxRecDepth 100000
/-! DK24L: what the defs of the program promise, in this law's numbers. -/
namespace DS
namespace PDK24
open DK24
theorem f__law_draw : SpDraw F1 := fun ws => rfl
theorem f__law_like : SpLike F2 := fun ws => rfl
theorem f_is_from : SpIsFrom F3 := sp_is_from (fs := fs3) (gs := gss) (fu := 200) 
theorem f_is_set : SpIsSet F4 := sp_is_set (fs := fs4) (gs := gss) (fu := 200) f_is_from
theorem f_is_arrow : SpIsArrow F5 := sp_is_arrow (fs := fs5) (gs := gss) (fu := 200) f_is_from
theorem f_is_cause : SpIsCause F6 := sp_is_cause (fs := fs6) (gs := gss) (fu := 200) f_is_set
theorem f_check_items : SpItems F7 (applyF fs7) := sp_check_items (fs := fs7) (gs := gss) (fu := 200) (fun j ws w h => ⟨applyF_lt h, h⟩)
theorem f_check_drawing : SpDrawing F8 := sp_check_drawing (fs := fs8) (gs := gss) (fu := 200) (J := applyF fs7) f_check_items f_is_cause rfl f_is_arrow f_is_from rfl
theorem f_is_within : SpWithin F9 := sp_is_within (fs := fs9) (gs := gss) (fu := 200) 
theorem f_every_so : SpEvery F10 := sp_every_so (fs := fs10) (gs := gss) (fu := 200) 
theorem f_less_so : SpLess F11 := sp_less_so (fs := fs11) (gs := gss) (fu := 200) 
theorem f_children_so : SpChildren F12 := sp_children_so (fs := fs12) (gs := gss) (fu := 200) 
theorem f_leading_so : SpLeadSo F13 := sp_leading_so (fs := fs13) (gs := gss) (fu := 200) f_children_so
theorem f_check_question : SpQuestion F14 := sp_check_question (fs := fs14) (gs := gss) (fu := 200) f_is_within f_is_set f_check_drawing
theorem f_things_so : SpThings F15 := sp_things_so (fs := fs15) (gs := gss) (fu := 200) 
theorem f_is_moved : SpIsMoved F16 := sp_is_moved (fs := fs16) (gs := gss) (fu := 200) f_is_from
theorem f_check_moved : SpCheckMoved F17 := sp_check_moved (fs := fs17) (gs := gss) (fu := 200) f_is_moved
theorem f_goal_so : SpGoalSo F18 := sp_goal_so (fs := fs18) (gs := gss) (fu := 200) f_leading_so f_less_so f_every_so
theorem f_things_of : SpThings F19 := sp_things_of (fs := fs19) (gs := gss) (fu := 200) f_things_so f_check_question
theorem f_goal : SpGoal F20 := sp_goal (fs := fs20) (gs := gss) (fu := 200) f_goal_so f_check_moved f_check_question
theorem f__law_drawing : SlDrawing10 F21 := sl_drawing_4 (fs := fs21) (gs := gss) (fu := 200) f__law_draw (by decide) (by decide)
theorem f__law_question : SlQuestion F22 := sl_question_1 (fs := fs22) (gs := gss) (fu := 200) f__law_draw (by decide) (by decide)
end PDK24
end DS

set_option Elab.async false
set_option linter.all false
set_option autoImplicit false
set_option maxRecDepth 100000
set_option maxHeartbeats 8000000
namespace DS
namespace PDK24
open PySem PySem.Spec PySem.SeqAt PyProof.Rows L2 DK24
theorem comes_ok {ar : List (Int × Int)} {lot goal : List Int} {n : Int} (ha : ArOk n ar) : ∀ (m : Nat) (x : Int), n - x < m → 0 < m → evR fs23 gss 200 6 4 b23 m [.d (.tuple (ar.map prD)), .d (.list (lot.map PyData.int)), .i x, tI goal] = .ret (.b (comesB ar lot goal m x))
  | 0, x, h, h0 => by omega
  | m + 1, x, h, _ => by
    show evD (fs23 ++ [evR fs23 gss 200 6 4 b23 m]) gss 200 6 4 b23 _ = _
    have hat : ∀ ws, applyF (fs23 ++ [evR fs23 gss 200 6 4 b23 m]) 23 ws = evR fs23 gss 200 6 4 b23 m ws := fun ws => rfl
    generalize hfs : fs23 ++ [evR fs23 gss 200 6 4 b23 m] = fs at hat
    rw [d_run 6 4 _ _ rfl]
    unfold comesB
    by_cases hg : x ∈ goal
    · simp [b23, v_v, v_non, v_bl, v_int, v_str, v_gl, v_fn, v_tup, v_lst, v_dnew, v_bin, v_neg, v_cmp, v_chain, v_isN, v_notN, v_bop, v_b1, v_b2, v_not, v_ite, v_ix, v_sl, v_call, v_callk, v_callv, v_bi, v_isi, v_comp, itB, escB, l_nil, l_cons, o_nil, o_cons, c_nil', c_cons', i_of', i_rng1', i_rng2', i_enum', i_zip', i_rev', s_nil', s_cons', t_asg, t_par, t_ret, t_retN, t_ite, t_for, t_ex, t_put, t_app, t_ext, t_brk, t_cnt, cmpK, iteK, notK, bopK, tupK, lstK, iteS, asgK, parK, escE, escL, escI, dem, dem1, getN, binW, addW, mulW, int2, b1W, lenW, tupleW, listW, intW, isiW, ixW, cmpW, wBool, wInt, isNone, asgE, asgT, asgTs, Tg.is, TgL.is, wipeE, fresh, isBox, datas, W.data?, opt_some, opt_none, ↓M.bind_ret, M.bind_stuck, M.nox_ret, itOf, itEnum, itZip, itRev, ownAt, ownL, W.i, W.b, List.map_cons, List.map_nil, List.set, List.getElem?_cons_zero, List.getElem?_cons_succ, List.length_cons, List.length_nil, List.replicate, List.append_nil, List.nil_append, List.cons_append, ite_true, ite_false, Bool.false_eq_true, reduceCtorEq, if_true, if_false, seqK_nx, seqK_rt, seqK_bk, seqK_ct, finK_rt, finK_nx, parE, t_whl, t_pop, ↓M.bind_assoc, seqW, List.map_map, List.length_map, Nat.reduceAdd, Nat.reduceLT, Option.map_some, Bool.not_true, Bool.not_false, ordW_int, eqW_int, intB, Bool.and_self, Bool.false_and, Bool.and_false, Bool.true_and, Bool.and_true, Bool.or_false, Bool.false_or, Bool.true_or, Bool.or_true, decide_true, decide_false, tI, hg]
    · obtain ⟨r', h1, _⟩ := forR_find (fs := fs) (gs := gss) (fu := 200) (tg := .t (.cons (.n 4) (.cons (.n 5) .nil)))
        (body := (.cons (.ite (.bop true (.cons (.cmp .eq (.v 4) (.v 2)) (.cons (.cmp .isin (.v 5) (.v 1)) (.cons (.call 23 (.cons (.v 0) (.cons (.v 1) (.cons (.v 5) (.cons (.v 3) .nil))))) .nil)))) (.cons (.ret (.bl true)) .nil) .nil) .nil))
        (W.d ∘ prD) (fun p => decide (p.1 = x) && (decide (p.2 ∈ lot) && comesB ar lot goal m p.2)) (W.b true)
        (fun r => ∃ c4 c5, r = [.sh (.d (.tuple (ar.map prD))), .sh (.d (.list (lot.map PyData.int))), .sh (.i x), .sh (tI goal), c4, c5]) (xs := ar) (r := [.sh (.d (.tuple (ar.map prD))), .sh (.d (.list (lot.map PyData.int))), .sh (.i x), .sh (tI goal), .no, .no]) ⟨_, _, rfl⟩ (fun p hp r ⟨c4, c5, hr⟩ => by
          subst hr
          refine ⟨[.sh (.d (.tuple (ar.map prD))), .sh (.d (.list (lot.map PyData.int))), .sh (.i x), .sh (tI goal), .sh (.i p.1), .sh (.i p.2)], [.sh (.d (.tuple (ar.map prD))), .sh (.d (.list (lot.map PyData.int))), .sh (.i x), .sh (tI goal), .sh (.i p.1), .sh (.i p.2)], rfl, ?_, _, _, rfl⟩
          by_cases e1 : p.1 = x
          · by_cases e2 : p.2 ∈ lot
            · have hp2 := ha.ok p hp
              have e3 : applyF fs 23 [W.d (.tuple (ar.map prD)), W.d (.list (lot.map PyData.int)), W.d (.int p.2), W.d (.tuple (goal.map PyData.int))] = _ := (hat _).trans (comes_ok ha m p.2 (by have := hp2.2.1; omega) (by have := hp2.2.1; have := hp2.2.2; omega))
              cases hb : comesB ar lot goal m p.2 <;> rw [hb] at e3 <;> simp [v_v, v_non, v_bl, v_int, v_str, v_gl, v_fn, v_tup, v_lst, v_dnew, v_bin, v_neg, v_cmp, v_chain, v_isN, v_notN, v_bop, v_b1, v_b2, v_not, v_ite, v_ix, v_sl, v_call, v_callk, v_callv, v_bi, v_isi, v_comp, itB, escB, l_nil, l_cons, o_nil, o_cons, c_nil', c_cons', i_of', i_rng1', i_rng2', i_enum', i_zip', i_rev', s_nil', s_cons', t_asg, t_par, t_ret, t_retN, t_ite, t_for, t_ex, t_put, t_app, t_ext, t_brk, t_cnt, cmpK, iteK, notK, bopK, tupK, lstK, iteS, asgK, parK, escE, escL, escI, dem, dem1, getN, binW, addW, mulW, int2, b1W, lenW, tupleW, listW, intW, isiW, ixW, cmpW, wBool, wInt, isNone, asgE, asgT, asgTs, Tg.is, TgL.is, wipeE, fresh, isBox, datas, W.data?, opt_some, opt_none, ↓M.bind_ret, M.bind_stuck, M.nox_ret, itOf, itEnum, itZip, itRev, ownAt, ownL, W.i, W.b, List.map_cons, List.map_nil, List.set, List.getElem?_cons_zero, List.getElem?_cons_succ, List.length_cons, List.length_nil, List.replicate, List.append_nil, List.nil_append, List.cons_append, ite_true, ite_false, Bool.false_eq_true, reduceCtorEq, if_true, if_false, seqK_nx, seqK_rt, seqK_bk, seqK_ct, finK_rt, finK_nx, parE, t_whl, t_pop, ↓M.bind_assoc, seqW, List.map_map, List.length_map, Nat.reduceAdd, Nat.reduceLT, Option.map_some, Bool.not_true, Bool.not_false, ordW_int, eqW_int, intB, Bool.and_self, Bool.false_and, Bool.and_false, Bool.true_and, Bool.and_true, Bool.or_false, Bool.false_or, Bool.true_or, Bool.or_true, decide_true, decide_false, tI, e1, e2, e3]
            · simp [v_v, v_non, v_bl, v_int, v_str, v_gl, v_fn, v_tup, v_lst, v_dnew, v_bin, v_neg, v_cmp, v_chain, v_isN, v_notN, v_bop, v_b1, v_b2, v_not, v_ite, v_ix, v_sl, v_call, v_callk, v_callv, v_bi, v_isi, v_comp, itB, escB, l_nil, l_cons, o_nil, o_cons, c_nil', c_cons', i_of', i_rng1', i_rng2', i_enum', i_zip', i_rev', s_nil', s_cons', t_asg, t_par, t_ret, t_retN, t_ite, t_for, t_ex, t_put, t_app, t_ext, t_brk, t_cnt, cmpK, iteK, notK, bopK, tupK, lstK, iteS, asgK, parK, escE, escL, escI, dem, dem1, getN, binW, addW, mulW, int2, b1W, lenW, tupleW, listW, intW, isiW, ixW, cmpW, wBool, wInt, isNone, asgE, asgT, asgTs, Tg.is, TgL.is, wipeE, fresh, isBox, datas, W.data?, opt_some, opt_none, ↓M.bind_ret, M.bind_stuck, M.nox_ret, itOf, itEnum, itZip, itRev, ownAt, ownL, W.i, W.b, List.map_cons, List.map_nil, List.set, List.getElem?_cons_zero, List.getElem?_cons_succ, List.length_cons, List.length_nil, List.replicate, List.append_nil, List.nil_append, List.cons_append, ite_true, ite_false, Bool.false_eq_true, reduceCtorEq, if_true, if_false, seqK_nx, seqK_rt, seqK_bk, seqK_ct, finK_rt, finK_nx, parE, t_whl, t_pop, ↓M.bind_assoc, seqW, List.map_map, List.length_map, Nat.reduceAdd, Nat.reduceLT, Option.map_some, Bool.not_true, Bool.not_false, ordW_int, eqW_int, intB, Bool.and_self, Bool.false_and, Bool.and_false, Bool.true_and, Bool.and_true, Bool.or_false, Bool.false_or, Bool.true_or, Bool.or_true, decide_true, decide_false, tI, e1, e2]
          · simp [v_v, v_non, v_bl, v_int, v_str, v_gl, v_fn, v_tup, v_lst, v_dnew, v_bin, v_neg, v_cmp, v_chain, v_isN, v_notN, v_bop, v_b1, v_b2, v_not, v_ite, v_ix, v_sl, v_call, v_callk, v_callv, v_bi, v_isi, v_comp, itB, escB, l_nil, l_cons, o_nil, o_cons, c_nil', c_cons', i_of', i_rng1', i_rng2', i_enum', i_zip', i_rev', s_nil', s_cons', t_asg, t_par, t_ret, t_retN, t_ite, t_for, t_ex, t_put, t_app, t_ext, t_brk, t_cnt, cmpK, iteK, notK, bopK, tupK, lstK, iteS, asgK, parK, escE, escL, escI, dem, dem1, getN, binW, addW, mulW, int2, b1W, lenW, tupleW, listW, intW, isiW, ixW, cmpW, wBool, wInt, isNone, asgE, asgT, asgTs, Tg.is, TgL.is, wipeE, fresh, isBox, datas, W.data?, opt_some, opt_none, ↓M.bind_ret, M.bind_stuck, M.nox_ret, itOf, itEnum, itZip, itRev, ownAt, ownL, W.i, W.b, List.map_cons, List.map_nil, List.set, List.getElem?_cons_zero, List.getElem?_cons_succ, List.length_cons, List.length_nil, List.replicate, List.append_nil, List.nil_append, List.cons_append, ite_true, ite_false, Bool.false_eq_true, reduceCtorEq, if_true, if_false, seqK_nx, seqK_rt, seqK_bk, seqK_ct, finK_rt, finK_nx, parE, t_whl, t_pop, ↓M.bind_assoc, seqW, List.map_map, List.length_map, Nat.reduceAdd, Nat.reduceLT, Option.map_some, Bool.not_true, Bool.not_false, ordW_int, eqW_int, intB, Bool.and_self, Bool.false_and, Bool.and_false, Bool.true_and, Bool.and_true, Bool.or_false, Bool.false_or, Bool.true_or, Bool.or_true, decide_true, decide_false, tI, e1])
      simp [b23, v_v, v_non, v_bl, v_int, v_str, v_gl, v_fn, v_tup, v_lst, v_dnew, v_bin, v_neg, v_cmp, v_chain, v_isN, v_notN, v_bop, v_b1, v_b2, v_not, v_ite, v_ix, v_sl, v_call, v_callk, v_callv, v_bi, v_isi, v_comp, itB, escB, l_nil, l_cons, o_nil, o_cons, c_nil', c_cons', i_of', i_rng1', i_rng2', i_enum', i_zip', i_rev', s_nil', s_cons', t_asg, t_par, t_ret, t_retN, t_ite, t_for, t_ex, t_put, t_app, t_ext, t_brk, t_cnt, cmpK, iteK, notK, bopK, tupK, lstK, iteS, asgK, parK, escE, escL, escI, dem, dem1, getN, binW, addW, mulW, int2, b1W, lenW, tupleW, listW, intW, isiW, ixW, cmpW, wBool, wInt, isNone, asgE, asgT, asgTs, Tg.is, TgL.is, wipeE, fresh, isBox, datas, W.data?, opt_some, opt_none, ↓M.bind_ret, M.bind_stuck, M.nox_ret, itOf, itEnum, itZip, itRev, ownAt, ownL, W.i, W.b, List.map_cons, List.map_nil, List.set, List.getElem?_cons_zero, List.getElem?_cons_succ, List.length_cons, List.length_nil, List.replicate, List.append_nil, List.nil_append, List.cons_append, ite_true, ite_false, Bool.false_eq_true, reduceCtorEq, if_true, if_false, seqK_nx, seqK_rt, seqK_bk, seqK_ct, finK_rt, finK_nx, parE, t_whl, t_pop, ↓M.bind_assoc, seqW, List.map_map, List.length_map, Nat.reduceAdd, Nat.reduceLT, Option.map_some, Bool.not_true, Bool.not_false, ordW_int, eqW_int, intB, Bool.and_self, Bool.false_and, Bool.and_false, Bool.true_and, Bool.and_true, Bool.or_false, Bool.false_or, Bool.true_or, Bool.or_true, decide_true, decide_false, tI, hg]
      simp [tI] at h1
      rw [h1]
      generalize (ar.any fun p => decide (p.1 = x) && (decide (p.2 ∈ lot) && comesB ar lot goal m p.2)) = bb
      cases bb <;> simp [v_v, v_non, v_bl, v_int, v_str, v_gl, v_fn, v_tup, v_lst, v_dnew, v_bin, v_neg, v_cmp, v_chain, v_isN, v_notN, v_bop, v_b1, v_b2, v_not, v_ite, v_ix, v_sl, v_call, v_callk, v_callv, v_bi, v_isi, v_comp, itB, escB, l_nil, l_cons, o_nil, o_cons, c_nil', c_cons', i_of', i_rng1', i_rng2', i_enum', i_zip', i_rev', s_nil', s_cons', t_asg, t_par, t_ret, t_retN, t_ite, t_for, t_ex, t_put, t_app, t_ext, t_brk, t_cnt, cmpK, iteK, notK, bopK, tupK, lstK, iteS, asgK, parK, escE, escL, escI, dem, dem1, getN, binW, addW, mulW, int2, b1W, lenW, tupleW, listW, intW, isiW, ixW, cmpW, wBool, wInt, isNone, asgE, asgT, asgTs, Tg.is, TgL.is, wipeE, fresh, isBox, datas, W.data?, opt_some, opt_none, ↓M.bind_ret, M.bind_stuck, M.nox_ret, itOf, itEnum, itZip, itRev, ownAt, ownL, W.i, W.b, List.map_cons, List.map_nil, List.set, List.getElem?_cons_zero, List.getElem?_cons_succ, List.length_cons, List.length_nil, List.replicate, List.append_nil, List.nil_append, List.cons_append, ite_true, ite_false, Bool.false_eq_true, reduceCtorEq, if_true, if_false, seqK_nx, seqK_rt, seqK_bk, seqK_ct, finK_rt, finK_nx, parE, t_whl, t_pop, ↓M.bind_assoc, seqW, List.map_map, List.length_map, Nat.reduceAdd, Nat.reduceLT, Option.map_some, Bool.not_true, Bool.not_false, ordW_int, eqW_int, intB, Bool.and_self, Bool.false_and, Bool.and_false, Bool.true_and, Bool.and_true, Bool.or_false, Bool.false_or, Bool.true_or, Bool.or_true, decide_true, decide_false]
def SlComes (F : Fn1) : Prop := ∀ (n : Int) (ar : List (Int × Int)) (lot goal : List Int) (x : Int), ArOk n ar → n ≤ 10 → 0 ≤ x → F [.d (.tuple (ar.map prD)), .d (.list (lot.map PyData.int)), .i x, tI goal] = .ret (.b (comesB ar lot goal 20 x))
theorem f_comes : SlComes F23 := fun n ar lot goal x ha hn hx => comes_ok ha 20 x (by omega) (by omega)
theorem lead_same {ar : List (Int × Int)} {lot g h : List Int} (ha : ∀ p ∈ ar, p.1 < p.2) (hl : lot.Pairwise (· < ·)) (e : ∀ x, x ∈ g ↔ x ∈ h) : leadL ar lot g = leadL ar lot h :=
  asc_uniqI (lead_asc hl) (lead_asc hl) fun x => by
    rw [lead_mem ha hl, lead_mem ha hl]
    exact ⟨fun ⟨a, b⟩ => ⟨a, comes_mono (fun _ z => z) (fun _ z => z) (fun x z => (e x).mp z) b⟩, fun ⟨a, b⟩ => ⟨a, comes_mono (fun _ z => z) (fun _ z => z) (fun x z => (e x).mpr z) b⟩⟩
def SlDue (F : Fn1) : Prop := ∀ n ar cs tr pu se as mv, QuOk n ar cs tr pu se as → mv.length ≤ 100 → F [quW n ar cs tr pu se as, tI mv] = .ret (tI (goalL n ar pu se as mv))
theorem due_ok : SlDue F24 := fun n ar cs tr pu se as mv q hm => by
  show evD fs24 gss 200 9 2 b24 _ = _
  have e23 : SlComes (applyF fs24 23) := f_comes
  generalize fs24 = fs at *
  have hc : cap = 100000 := rfl
  obtain ⟨l1, l2, l3, l4⟩ := q.lens
  have d0 := q.d.lo
  have d1 := q.d.hi
  have hu := upto_len' n
  have e23 := fun x hx => e23 n ar (freeL n pu mv) (as ++ se.filter (fun x => decide (x ∉ mv))) x q.d.ar d1 hx
  have hasc : (freeL n pu mv).Pairwise (· < ·) := (upto_asc' n).sublist List.filter_sublist
  have hfl : (freeL n pu mv).length ≤ (upto n).length := List.length_filter_le _ _
  have hsl : (se.filter fun x => decide (x ∉ mv)).length ≤ se.length := List.length_filter_le _ _
  have hf0 : ∀ x ∈ freeL n pu mv, 0 ≤ x := fun x hx => (upto_mem'.mp (List.mem_filter.mp hx).1).1
  have hd := due_lead (goal := as ++ se.filter (fun x => decide (x ∉ mv))) q.d.ar (by omega) hasc hf0
  have hg : goalL n ar pu se as mv = leadL ar (freeL n pu mv) (as ++ se.filter (fun x => decide (x ∉ mv))) := lead_same (fun p hp => (q.d.ar.ok p hp).2.1) hasc fun x => by
    rw [List.mem_append, List.mem_append]
    exact Or.comm
  have g1 : as.length + (se.filter fun x => decide (x ∉ mv)).length ≤ cap := by omega
  have ef : (upto n).filter (fun x => decide (x ∉ pu) && decide (x ∉ mv)) = freeL n pu mv := by
    unfold freeL
    congr 1
    funext x
    by_cases h1 : x ∈ pu <;> by_cases h2 : x ∈ mv <;> simp [h1, h2]
  rw [hg]
  rw [d_run 9 2 _ _ rfl]
  simp only [b24, v_v, v_non, v_bl, v_int, v_str, v_gl, v_fn, v_tup, v_lst, v_dnew, v_bin, v_neg, v_cmp, v_chain, v_isN, v_notN, v_bop, v_b1, v_b2, v_not, v_ite, v_ix, v_sl, v_call, v_callk, v_callv, v_bi, v_isi, v_comp, itB, escB, l_nil, l_cons, o_nil, o_cons, c_nil', c_cons', i_of', i_rng1', i_rng2', i_enum', i_zip', i_rev', s_nil', s_cons', t_asg, t_par, t_ret, t_retN, t_ite, t_for, t_ex, t_put, t_app, t_ext, t_brk, t_cnt, cmpK, iteK, notK, bopK, tupK, lstK, iteS, asgK, parK, escE, escL, escI, dem, dem1, getN, binW, addW, mulW, int2, b1W, lenW, tupleW, listW, intW, isiW, ixW, cmpW, wBool, wInt, isNone, asgE, asgT, asgTs, Tg.is, TgL.is, wipeE, fresh, isBox, datas, W.data?, opt_some, opt_none, ↓M.bind_ret, M.bind_stuck, M.nox_ret, itOf, itEnum, itZip, itRev, ownAt, ownL, W.i, W.b, List.map_cons, List.map_nil, List.set, List.getElem?_cons_zero, List.getElem?_cons_succ, List.length_cons, List.length_nil, List.replicate, List.append_nil, List.nil_append, List.cons_append, ite_true, ite_false, Bool.false_eq_true, reduceCtorEq, if_true, if_false, seqK_nx, seqK_rt, seqK_bk, seqK_ct, finK_rt, finK_nx, parE, t_whl, t_pop, ↓M.bind_assoc, seqW, List.map_map, List.length_map, Nat.reduceAdd, Nat.reduceLT, Option.map_some, Bool.not_true, Bool.not_false, ordW_int, eqW_int, intB, Bool.and_self, Bool.false_and, Bool.and_false, Bool.true_and, Bool.and_true, Bool.or_false, Bool.false_or, Bool.true_or, Bool.or_true, decide_true, decide_false, at3_0, itRng_up (b := n) (by omega) (by omega)]
  refine (M.bind_eq (compR_fm (W.d ∘ PyData.int) (fun x => decide (x ∉ pu) && decide (x ∉ mv)) PyData.int (by omega) fun y hy => by by_cases q : y ∈ pu <;> by_cases q2 : y ∈ mv <;> simp [stepC, v_v, v_non, v_bl, v_int, v_str, v_gl, v_fn, v_tup, v_lst, v_dnew, v_bin, v_neg, v_cmp, v_chain, v_isN, v_notN, v_bop, v_b1, v_b2, v_not, v_ite, v_ix, v_sl, v_call, v_callk, v_callv, v_bi, v_isi, v_comp, itB, escB, l_nil, l_cons, o_nil, o_cons, c_nil', c_cons', i_of', i_rng1', i_rng2', i_enum', i_zip', i_rev', s_nil', s_cons', t_asg, t_par, t_ret, t_retN, t_ite, t_for, t_ex, t_put, t_app, t_ext, t_brk, t_cnt, cmpK, iteK, notK, bopK, tupK, lstK, iteS, asgK, parK, escE, escL, escI, dem, dem1, getN, binW, addW, mulW, int2, b1W, lenW, tupleW, listW, intW, isiW, ixW, cmpW, wBool, wInt, isNone, asgE, asgT, asgTs, Tg.is, TgL.is, wipeE, fresh, isBox, datas, W.data?, opt_some, opt_none, ↓M.bind_ret, M.bind_stuck, M.nox_ret, itOf, itEnum, itZip, itRev, ownAt, ownL, W.i, W.b, List.map_cons, List.map_nil, List.set, List.getElem?_cons_zero, List.getElem?_cons_succ, List.length_cons, List.length_nil, List.replicate, List.append_nil, List.nil_append, List.cons_append, ite_true, ite_false, Bool.false_eq_true, reduceCtorEq, if_true, if_false, seqK_nx, seqK_rt, seqK_bk, seqK_ct, finK_rt, finK_nx, parE, t_whl, t_pop, ↓M.bind_assoc, seqW, List.map_map, List.length_map, Nat.reduceAdd, Nat.reduceLT, Option.map_some, Bool.not_true, Bool.not_false, ordW_int, eqW_int, intB, Bool.and_self, Bool.false_and, Bool.and_false, Bool.true_and, Bool.and_true, Bool.or_false, Bool.false_or, Bool.true_or, Bool.or_true, decide_true, decide_false, q, q2])).trans ?_
  rw [ef]
  generalize freeL n pu mv = fr at *
  simp only [v_v, v_non, v_bl, v_int, v_str, v_gl, v_fn, v_tup, v_lst, v_dnew, v_bin, v_neg, v_cmp, v_chain, v_isN, v_notN, v_bop, v_b1, v_b2, v_not, v_ite, v_ix, v_sl, v_call, v_callk, v_callv, v_bi, v_isi, v_comp, itB, escB, l_nil, l_cons, o_nil, o_cons, c_nil', c_cons', i_of', i_rng1', i_rng2', i_enum', i_zip', i_rev', s_nil', s_cons', t_asg, t_par, t_ret, t_retN, t_ite, t_for, t_ex, t_put, t_app, t_ext, t_brk, t_cnt, cmpK, iteK, notK, bopK, tupK, lstK, iteS, asgK, parK, escE, escL, escI, dem, dem1, getN, binW, addW, mulW, int2, b1W, lenW, tupleW, listW, intW, isiW, ixW, cmpW, wBool, wInt, isNone, asgE, asgT, asgTs, Tg.is, TgL.is, wipeE, fresh, isBox, datas, W.data?, opt_some, opt_none, ↓M.bind_ret, M.bind_stuck, M.nox_ret, itOf, itEnum, itZip, itRev, ownAt, ownL, W.i, W.b, List.map_cons, List.map_nil, List.set, List.getElem?_cons_zero, List.getElem?_cons_succ, List.length_cons, List.length_nil, List.replicate, List.append_nil, List.nil_append, List.cons_append, ite_true, ite_false, Bool.false_eq_true, reduceCtorEq, if_true, if_false, seqK_nx, seqK_rt, seqK_bk, seqK_ct, finK_rt, finK_nx, parE, t_whl, t_pop, ↓M.bind_assoc, seqW, List.map_map, List.length_map, Nat.reduceAdd, Nat.reduceLT, Option.map_some, Bool.not_true, Bool.not_false, ordW_int, eqW_int, intB, Bool.and_self, Bool.false_and, Bool.and_false, Bool.true_and, Bool.and_true, Bool.or_false, Bool.false_or, Bool.true_or, Bool.or_true, decide_true, decide_false]
  refine (M.bind_eq (compR_fm (W.d ∘ PyData.int) (fun x => decide (x ∉ mv)) PyData.int (by omega) fun y hy => by by_cases q2 : y ∈ mv <;> simp [stepC, v_v, v_non, v_bl, v_int, v_str, v_gl, v_fn, v_tup, v_lst, v_dnew, v_bin, v_neg, v_cmp, v_chain, v_isN, v_notN, v_bop, v_b1, v_b2, v_not, v_ite, v_ix, v_sl, v_call, v_callk, v_callv, v_bi, v_isi, v_comp, itB, escB, l_nil, l_cons, o_nil, o_cons, c_nil', c_cons', i_of', i_rng1', i_rng2', i_enum', i_zip', i_rev', s_nil', s_cons', t_asg, t_par, t_ret, t_retN, t_ite, t_for, t_ex, t_put, t_app, t_ext, t_brk, t_cnt, cmpK, iteK, notK, bopK, tupK, lstK, iteS, asgK, parK, escE, escL, escI, dem, dem1, getN, binW, addW, mulW, int2, b1W, lenW, tupleW, listW, intW, isiW, ixW, cmpW, wBool, wInt, isNone, asgE, asgT, asgTs, Tg.is, TgL.is, wipeE, fresh, isBox, datas, W.data?, opt_some, opt_none, ↓M.bind_ret, M.bind_stuck, M.nox_ret, itOf, itEnum, itZip, itRev, ownAt, ownL, W.i, W.b, List.map_cons, List.map_nil, List.set, List.getElem?_cons_zero, List.getElem?_cons_succ, List.length_cons, List.length_nil, List.replicate, List.append_nil, List.nil_append, List.cons_append, ite_true, ite_false, Bool.false_eq_true, reduceCtorEq, if_true, if_false, seqK_nx, seqK_rt, seqK_bk, seqK_ct, finK_rt, finK_nx, parE, t_whl, t_pop, ↓M.bind_assoc, seqW, List.map_map, List.length_map, Nat.reduceAdd, Nat.reduceLT, Option.map_some, Bool.not_true, Bool.not_false, ordW_int, eqW_int, intB, Bool.and_self, Bool.false_and, Bool.and_false, Bool.true_and, Bool.and_true, Bool.or_false, Bool.false_or, Bool.true_or, Bool.or_true, decide_true, decide_false, q2])).trans ?_
  generalize (se.filter fun x => decide (x ∉ mv)) = sm at *
  simp only [v_v, v_non, v_bl, v_int, v_str, v_gl, v_fn, v_tup, v_lst, v_dnew, v_bin, v_neg, v_cmp, v_chain, v_isN, v_notN, v_bop, v_b1, v_b2, v_not, v_ite, v_ix, v_sl, v_call, v_callk, v_callv, v_bi, v_isi, v_comp, itB, escB, l_nil, l_cons, o_nil, o_cons, c_nil', c_cons', i_of', i_rng1', i_rng2', i_enum', i_zip', i_rev', s_nil', s_cons', t_asg, t_par, t_ret, t_retN, t_ite, t_for, t_ex, t_put, t_app, t_ext, t_brk, t_cnt, cmpK, iteK, notK, bopK, tupK, lstK, iteS, asgK, parK, escE, escL, escI, dem, dem1, getN, binW, addW, mulW, int2, b1W, lenW, tupleW, listW, intW, isiW, ixW, cmpW, wBool, wInt, isNone, asgE, asgT, asgTs, Tg.is, TgL.is, wipeE, fresh, isBox, datas, W.data?, opt_some, opt_none, ↓M.bind_ret, M.bind_stuck, M.nox_ret, itOf, itEnum, itZip, itRev, ownAt, ownL, W.i, W.b, List.map_cons, List.map_nil, List.set, List.getElem?_cons_zero, List.getElem?_cons_succ, List.length_cons, List.length_nil, List.replicate, List.append_nil, List.nil_append, List.cons_append, ite_true, ite_false, Bool.false_eq_true, reduceCtorEq, if_true, if_false, seqK_nx, seqK_rt, seqK_bk, seqK_ct, finK_rt, finK_nx, parE, t_whl, t_pop, ↓M.bind_assoc, seqW, List.map_map, List.length_map, Nat.reduceAdd, Nat.reduceLT, Option.map_some, Bool.not_true, Bool.not_false, ordW_int, eqW_int, intB, Bool.and_self, Bool.false_and, Bool.and_false, Bool.true_and, Bool.and_true, Bool.or_false, Bool.false_or, Bool.true_or, Bool.or_true, decide_true, decide_false, g1]
  refine (M.bind_eq (compR_fm (W.d ∘ PyData.int) (fun x => comesB ar fr (as ++ sm) 20 x) PyData.int (by omega) fun y hy => by
    have a := e23 y (hf0 y hy)
    rw [tI, List.map_append] at a
    cases hb : comesB ar fr (as ++ sm) 20 y <;> rw [hb] at a <;> simp [stepC, v_v, v_non, v_bl, v_int, v_str, v_gl, v_fn, v_tup, v_lst, v_dnew, v_bin, v_neg, v_cmp, v_chain, v_isN, v_notN, v_bop, v_b1, v_b2, v_not, v_ite, v_ix, v_sl, v_call, v_callk, v_callv, v_bi, v_isi, v_comp, itB, escB, l_nil, l_cons, o_nil, o_cons, c_nil', c_cons', i_of', i_rng1', i_rng2', i_enum', i_zip', i_rev', s_nil', s_cons', t_asg, t_par, t_ret, t_retN, t_ite, t_for, t_ex, t_put, t_app, t_ext, t_brk, t_cnt, cmpK, iteK, notK, bopK, tupK, lstK, iteS, asgK, parK, escE, escL, escI, dem, dem1, getN, binW, addW, mulW, int2, b1W, lenW, tupleW, listW, intW, isiW, ixW, cmpW, wBool, wInt, isNone, asgE, asgT, asgTs, Tg.is, TgL.is, wipeE, fresh, isBox, datas, W.data?, opt_some, opt_none, ↓M.bind_ret, M.bind_stuck, M.nox_ret, itOf, itEnum, itZip, itRev, ownAt, ownL, W.i, W.b, List.map_cons, List.map_nil, List.set, List.getElem?_cons_zero, List.getElem?_cons_succ, List.length_cons, List.length_nil, List.replicate, List.append_nil, List.nil_append, List.cons_append, ite_true, ite_false, Bool.false_eq_true, reduceCtorEq, if_true, if_false, seqK_nx, seqK_rt, seqK_bk, seqK_ct, finK_rt, finK_nx, parE, t_whl, t_pop, ↓M.bind_assoc, seqW, List.map_map, List.length_map, Nat.reduceAdd, Nat.reduceLT, Option.map_some, Bool.not_true, Bool.not_false, ordW_int, eqW_int, intB, Bool.and_self, Bool.false_and, Bool.and_false, Bool.true_and, Bool.and_true, Bool.or_false, Bool.false_or, Bool.true_or, Bool.or_true, decide_true, decide_false, at3_1, a])).trans ?_
  simp only [v_v, v_non, v_bl, v_int, v_str, v_gl, v_fn, v_tup, v_lst, v_dnew, v_bin, v_neg, v_cmp, v_chain, v_isN, v_notN, v_bop, v_b1, v_b2, v_not, v_ite, v_ix, v_sl, v_call, v_callk, v_callv, v_bi, v_isi, v_comp, itB, escB, l_nil, l_cons, o_nil, o_cons, c_nil', c_cons', i_of', i_rng1', i_rng2', i_enum', i_zip', i_rev', s_nil', s_cons', t_asg, t_par, t_ret, t_retN, t_ite, t_for, t_ex, t_put, t_app, t_ext, t_brk, t_cnt, cmpK, iteK, notK, bopK, tupK, lstK, iteS, asgK, parK, escE, escL, escI, dem, dem1, getN, binW, addW, mulW, int2, b1W, lenW, tupleW, listW, intW, isiW, ixW, cmpW, wBool, wInt, isNone, asgE, asgT, asgTs, Tg.is, TgL.is, wipeE, fresh, isBox, datas, W.data?, opt_some, opt_none, ↓M.bind_ret, M.bind_stuck, M.nox_ret, itOf, itEnum, itZip, itRev, ownAt, ownL, W.i, W.b, List.map_cons, List.map_nil, List.set, List.getElem?_cons_zero, List.getElem?_cons_succ, List.length_cons, List.length_nil, List.replicate, List.append_nil, List.nil_append, List.cons_append, ite_true, ite_false, Bool.false_eq_true, reduceCtorEq, if_true, if_false, seqK_nx, seqK_rt, seqK_bk, seqK_ct, finK_rt, finK_nx, parE, t_whl, t_pop, ↓M.bind_assoc, seqW, List.map_map, List.length_map, Nat.reduceAdd, Nat.reduceLT, Option.map_some, Bool.not_true, Bool.not_false, ordW_int, eqW_int, intB, Bool.and_self, Bool.false_and, Bool.and_false, Bool.true_and, Bool.and_true, Bool.or_false, Bool.false_or, Bool.true_or, Bool.or_true, decide_true, decide_false, hd]
end PDK24
end DS

set_option Elab.async false
set_option linter.all false
set_option autoImplicit false
set_option maxRecDepth 100000
set_option maxHeartbeats 8000000
namespace DS
namespace PDK24
open PySem PySem.Spec PySem.SeqAt PyProof.Rows L2 DK24
/-! ### all moves -/
structure Ms (se : List Int) (k b : Nat) (ms : List (List Int)) : Prop where
  ok : ∀ m ∈ ms, MvOk se m ∧ m.length ≤ k
  few : ms.length ≤ b
def mvS (se m : List Int) : List (List Int) := ((se.take 4).filter fun s => decide (s ∉ m)).map fun s => m ++ [s]
theorem mvS_ok {se m : List Int} {k : Nat} (h : MvOk se m ∧ m.length ≤ k) : Ms se (k + 1) 4 (mvS se m) := by
  refine ⟨fun l hl => ?_, ?_⟩
  · obtain ⟨s, hs, rfl⟩ := List.mem_map.mp hl
    obtain ⟨h1, h2⟩ := List.mem_filter.mp hs
    have h2 : s ∉ m := of_decide_eq_true h2
    refine ⟨⟨fun x hx => ?_, List.nodup_append.mpr ⟨h.1.nd, by simp, fun a ha b hb e => by rw [List.mem_singleton.mp hb] at e; subst e; exact h2 ha⟩⟩, by rw [List.length_append, List.length_singleton]; omega⟩
    rcases List.mem_append.mp hx with hx | hx
    · exact h.1.sub x hx
    · rw [List.mem_singleton.mp hx]; exact List.take_subset _ _ h1
  · unfold mvS
    rw [List.length_map]
    have := List.length_filter_le (fun s => decide (s ∉ m)) (se.take 4)
    rw [List.length_take] at this
    omega
structure MvI (se : List Int) (fo la : List (List Int)) (c3 : C) (k : Nat) (i : Nat) (r : Env) : Prop where
  ex : ∃ (ms : List (List Int)) (c5 : C), Ms se (k + 1) (4 * i) ms ∧ r = [.sh (tI se), .ow (.d (.list (fo.map csD))), .sh (.d (.list (la.map csD))), c3, .ow (.d (.list (ms.map csD))), c5, .no]
structure MvJ (se : List Int) (i : Nat) (r : Env) : Prop where
  ex : ∃ (fo la : List (List Int)) (c2 c3 c4 c5 : C), Ms se i (4 ^ i) la ∧ Ms se i (5 ^ i) fo ∧ (c2 = .sh (.d (.list (la.map csD))) ∨ c2 = .ow (.d (.list (la.map csD)))) ∧ r = [.sh (tI se), .ow (.d (.list (fo.map csD))), c2, c3, c4, c5, .no]
structure IsMvs (se : List Int) (w : W) : Prop where
  ex : ∃ ms : List (List Int), w = .d (.list (ms.map csD)) ∧ Ms se 3 125 ms
structure SlMoves (F : Fn1) : Prop where
  ok : ∀ m se, SetOk m se → se.length ≤ 10 → Ok 0 (F [tI se]) (IsMvs se)
theorem moves_ok {fs : Fns} : SlMoves (evD fs gss 200 7 1 b25) := .mk fun m se hse hl => by
  have hc : cap = 100000 := rfl
  have c4 : slW (.d (.tuple (se.map PyData.int))) none (some 4) = some (.d (.tuple ((se.take 4).map PyData.int))) := by
    unfold slW; simp only [List.map_take]; rw [← cutD_take]; rfl
  have ht : (se.take 4).length ≤ 4 := by rw [List.length_take]; omega
  have hu3 : (upto 3).length = 3 := rfl
  rw [d_run 7 1 _ _ rfl]
  simp only [b25, v_v, v_non, v_bl, v_int, v_str, v_gl, v_fn, v_tup, v_lst, v_dnew, v_bin, v_neg, v_cmp, v_chain, v_isN, v_notN, v_bop, v_b1, v_b2, v_not, v_ite, v_ix, v_sl, v_call, v_callk, v_callv, v_bi, v_isi, v_comp, itB, escB, l_nil, l_cons, o_nil, o_cons, c_nil', c_cons', i_of', i_rng1', i_rng2', i_enum', i_zip', i_rev', s_nil', s_cons', t_asg, t_par, t_ret, t_retN, t_ite, t_for, t_ex, t_put, t_app, t_ext, t_brk, t_cnt, cmpK, iteK, notK, bopK, tupK, lstK, iteS, asgK, parK, escE, escL, escI, dem, dem1, getN, binW, addW, mulW, int2, b1W, lenW, tupleW, listW, intW, isiW, ixW, cmpW, wBool, wInt, isNone, asgE, asgT, asgTs, Tg.is, TgL.is, wipeE, fresh, isBox, datas, W.data?, opt_some, opt_none, ↓M.bind_ret, M.bind_stuck, M.nox_ret, itOf, itEnum, itZip, itRev, ownAt, ownL, W.i, W.b, List.map_cons, List.map_nil, List.set, List.getElem?_cons_zero, List.getElem?_cons_succ, List.length_cons, List.length_nil, List.replicate, List.append_nil, List.nil_append, List.cons_append, ite_true, ite_false, Bool.false_eq_true, reduceCtorEq, if_true, if_false, seqK_nx, seqK_rt, seqK_bk, seqK_ct, finK_rt, finK_nx, parE, t_whl, t_pop, ↓M.bind_assoc, seqW, List.map_map, List.length_map, Nat.reduceAdd, Nat.reduceLT, Option.map_some, Bool.not_true, Bool.not_false, ordW_int, eqW_int, intB, Bool.and_self, Bool.false_and, Bool.and_false, Bool.true_and, Bool.and_true, Bool.or_false, Bool.false_or, Bool.true_or, Bool.or_true, decide_true, decide_false, itRng_up (b := 3) (by omega) (by omega)]
  refine Ok.for (b1 := 0) (b2 := 0) (W.d ∘ PyData.int) (MvJ se) ⟨[[]], [[]], _, _, _, _, ⟨fun m hm => by rw [List.mem_singleton.mp hm]; exact ⟨⟨by simp, by simp⟩, by simp⟩, by simp⟩, ⟨fun m hm => by rw [List.mem_singleton.mp hm]; exact ⟨⟨by simp, by simp⟩, by simp⟩, by simp⟩, .inr rfl, rfl⟩ (fun i x r hi ⟨⟨fo, la, c2, c3, c4', c5, hla, hfo, h2, hr⟩⟩ => ?_) (by omega) fun r ⟨⟨fo, la, c2, c3, c4', c5, hla, hfo, h2, hr⟩⟩ => ?_
  · subst hr
    have hi3 : i < 3 := by have := get_lt' hi; omega
    have p4 : 4 ^ i ≤ 16 := Nat.pow_le_pow_right (by omega) (by omega : i ≤ 2)
    have p5 : 5 ^ i ≤ 25 := Nat.pow_le_pow_right (by omega) (by omega : i ≤ 2)
    have p45 : 4 ^ i ≤ 5 ^ i := Nat.pow_le_pow_left (by omega) i
    have hlf := hla.few
    have hff := hfo.few
    refine ⟨[.sh (tI se), .ow (.d (.list (fo.map csD))), c2, .sh (.d (.int x)), c4', c5, .no], rfl, ?_⟩
    generalize hPP : (fun q : Fl × Env => q.1 = .nx ∧ MvJ se (i + 1) q.2) = PP
    have go : Ok 0 ((forR fs gss 200 (.n 5) (.cons (.asg (.n 4) (.bin .add (.v 4) (.comp (.n 6) (.of (.sl (.v 0) .nil (.cons (.int 4) .nil))) (.cons (.cmp .notin (.v 6) (.v 5)) .nil) (.bin .add (.v 5) (.tup (.cons (.v 6) .nil)))))) .nil) [.sh (tI se), .ow (.d (.list (fo.map csD))), .sh (.d (.list (la.map csD))), .sh (.d (.int x)), .ow (.d (.list [])), c5, .no] (la.map (W.d ∘ csD))).bind
        (seqK fs gss 200 (.cons (.par [1, 2] (.cons (.bin .add (.v 1) (.v 4)) (.cons (.v 4) .nil))) .nil))) PP := by
      refine Ok.for (b1 := 0) (b2 := 0) (W.d ∘ csD) (MvI se fo la (.sh (.d (.int x))) i) ⟨[], _, ⟨by simp, by simp⟩, rfl⟩ (fun j l r hj ⟨⟨ms, c5', hms, hr⟩⟩ => ?_) (by omega) fun r ⟨⟨ms, c5', hms, hr⟩⟩ => ?_
      · subst hr
        have hl5 := hla.ok l (List.mem_of_getElem? hj)
        have hj2 := get_lt' hj
        have o := mvS_ok hl5
        have hmf := hms.few
        have hof := o.few
        have hl5' := hl5.2
        have gl : l.length + 1 ≤ cap := by omega
        have gm : ms.length + (mvS se l).length ≤ cap := by omega
        have em : ((se.take 4).filter fun s => decide (s ∉ l)).map (fun s => csD (l ++ [s])) = (mvS se l).map csD := by unfold mvS; rw [List.map_map]; rfl
        refine ⟨_, rfl, Ok.of (a := (.nx, [.sh (tI se), .ow (.d (.list (fo.map csD))), .sh (.d (.list (la.map csD))), .sh (.d (.int x)), .ow (.d (.list ((ms ++ mvS se l).map csD))), .sh (.d (csD l)), .no])) ?_ ⟨rfl, ⟨ms ++ mvS se l, _, ⟨fun m hm => ?_, by rw [List.length_append]; omega⟩, rfl⟩⟩⟩
        · simp only [v_v, v_non, v_bl, v_int, v_str, v_gl, v_fn, v_tup, v_lst, v_dnew, v_bin, v_neg, v_cmp, v_chain, v_isN, v_notN, v_bop, v_b1, v_b2, v_not, v_ite, v_ix, v_sl, v_call, v_callk, v_callv, v_bi, v_isi, v_comp, itB, escB, l_nil, l_cons, o_nil, o_cons, c_nil', c_cons', i_of', i_rng1', i_rng2', i_enum', i_zip', i_rev', s_nil', s_cons', t_asg, t_par, t_ret, t_retN, t_ite, t_for, t_ex, t_put, t_app, t_ext, t_brk, t_cnt, cmpK, iteK, notK, bopK, tupK, lstK, iteS, asgK, parK, escE, escL, escI, dem, dem1, getN, binW, addW, mulW, int2, b1W, lenW, tupleW, listW, intW, isiW, ixW, cmpW, wBool, wInt, isNone, asgE, asgT, asgTs, Tg.is, TgL.is, wipeE, fresh, isBox, datas, W.data?, opt_some, opt_none, ↓M.bind_ret, M.bind_stuck, M.nox_ret, itOf, itEnum, itZip, itRev, ownAt, ownL, W.i, W.b, List.map_cons, List.map_nil, List.set, List.getElem?_cons_zero, List.getElem?_cons_succ, List.length_cons, List.length_nil, List.replicate, List.append_nil, List.nil_append, List.cons_append, ite_true, ite_false, Bool.false_eq_true, reduceCtorEq, if_true, if_false, seqK_nx, seqK_rt, seqK_bk, seqK_ct, finK_rt, finK_nx, parE, t_whl, t_pop, ↓M.bind_assoc, seqW, List.map_map, List.length_map, Nat.reduceAdd, Nat.reduceLT, Option.map_some, Bool.not_true, Bool.not_false, ordW_int, eqW_int, intB, Bool.and_self, Bool.false_and, Bool.and_false, Bool.true_and, Bool.and_true, Bool.or_false, Bool.false_or, Bool.true_or, Bool.or_true, decide_true, decide_false, csD, c4]
          refine (M.bind_eq (compR_fm (W.d ∘ PyData.int) (fun s => decide (s ∉ l)) (fun s => csD (l ++ [s])) (by omega) fun y hy => by by_cases q : y ∈ l <;> simp [stepC, v_v, v_non, v_bl, v_int, v_str, v_gl, v_fn, v_tup, v_lst, v_dnew, v_bin, v_neg, v_cmp, v_chain, v_isN, v_notN, v_bop, v_b1, v_b2, v_not, v_ite, v_ix, v_sl, v_call, v_callk, v_callv, v_bi, v_isi, v_comp, itB, escB, l_nil, l_cons, o_nil, o_cons, c_nil', c_cons', i_of', i_rng1', i_rng2', i_enum', i_zip', i_rev', s_nil', s_cons', t_asg, t_par, t_ret, t_retN, t_ite, t_for, t_ex, t_put, t_app, t_ext, t_brk, t_cnt, cmpK, iteK, notK, bopK, tupK, lstK, iteS, asgK, parK, escE, escL, escI, dem, dem1, getN, binW, addW, mulW, int2, b1W, lenW, tupleW, listW, intW, isiW, ixW, cmpW, wBool, wInt, isNone, asgE, asgT, asgTs, Tg.is, TgL.is, wipeE, fresh, isBox, datas, W.data?, opt_some, opt_none, ↓M.bind_ret, M.bind_stuck, M.nox_ret, itOf, itEnum, itZip, itRev, ownAt, ownL, W.i, W.b, List.map_cons, List.map_nil, List.set, List.getElem?_cons_zero, List.getElem?_cons_succ, List.length_cons, List.length_nil, List.replicate, List.append_nil, List.nil_append, List.cons_append, ite_true, ite_false, Bool.false_eq_true, reduceCtorEq, if_true, if_false, seqK_nx, seqK_rt, seqK_bk, seqK_ct, finK_rt, finK_nx, parE, t_whl, t_pop, ↓M.bind_assoc, seqW, List.map_map, List.length_map, Nat.reduceAdd, Nat.reduceLT, Option.map_some, Bool.not_true, Bool.not_false, ordW_int, eqW_int, intB, Bool.and_self, Bool.false_and, Bool.and_false, Bool.true_and, Bool.and_true, Bool.or_false, Bool.false_or, Bool.true_or, Bool.or_true, decide_true, decide_false, q, csD, gl])).trans ?_
          rw [em]
          simp only [v_v, v_non, v_bl, v_int, v_str, v_gl, v_fn, v_tup, v_lst, v_dnew, v_bin, v_neg, v_cmp, v_chain, v_isN, v_notN, v_bop, v_b1, v_b2, v_not, v_ite, v_ix, v_sl, v_call, v_callk, v_callv, v_bi, v_isi, v_comp, itB, escB, l_nil, l_cons, o_nil, o_cons, c_nil', c_cons', i_of', i_rng1', i_rng2', i_enum', i_zip', i_rev', s_nil', s_cons', t_asg, t_par, t_ret, t_retN, t_ite, t_for, t_ex, t_put, t_app, t_ext, t_brk, t_cnt, cmpK, iteK, notK, bopK, tupK, lstK, iteS, asgK, parK, escE, escL, escI, dem, dem1, getN, binW, addW, mulW, int2, b1W, lenW, tupleW, listW, intW, isiW, ixW, cmpW, wBool, wInt, isNone, asgE, asgT, asgTs, Tg.is, TgL.is, wipeE, fresh, isBox, datas, W.data?, opt_some, opt_none, ↓M.bind_ret, M.bind_stuck, M.nox_ret, itOf, itEnum, itZip, itRev, ownAt, ownL, W.i, W.b, List.map_cons, List.map_nil, List.set, List.getElem?_cons_zero, List.getElem?_cons_succ, List.length_cons, List.length_nil, List.replicate, List.append_nil, List.nil_append, List.cons_append, ite_true, ite_false, Bool.false_eq_true, reduceCtorEq, if_true, if_false, seqK_nx, seqK_rt, seqK_bk, seqK_ct, finK_rt, finK_nx, parE, t_whl, t_pop, ↓M.bind_assoc, seqW, List.map_map, List.length_map, Nat.reduceAdd, Nat.reduceLT, Option.map_some, Bool.not_true, Bool.not_false, ordW_int, eqW_int, intB, Bool.and_self, Bool.false_and, Bool.and_false, Bool.true_and, Bool.and_true, Bool.or_false, Bool.false_or, Bool.true_or, Bool.or_true, decide_true, decide_false, gm, List.map_append, csD, Function.comp_apply]
        · rcases List.mem_append.mp hm with hm | hm
          · exact hms.ok m hm
          · exact o.ok m hm
      · subst hr
        have hmf := hms.few
        have gm : fo.length + ms.length ≤ cap := by omega
        refine Ok.of (a := (.nx, [.sh (tI se), .ow (.d (.list ((fo ++ ms).map csD))), .sh (.d (.list (ms.map csD))), .sh (.d (.int x)), .sh (.d (.list (ms.map csD))), c5', .no])) ?_ ?_
        · simp [v_v, v_non, v_bl, v_int, v_str, v_gl, v_fn, v_tup, v_lst, v_dnew, v_bin, v_neg, v_cmp, v_chain, v_isN, v_notN, v_bop, v_b1, v_b2, v_not, v_ite, v_ix, v_sl, v_call, v_callk, v_callv, v_bi, v_isi, v_comp, itB, escB, l_nil, l_cons, o_nil, o_cons, c_nil', c_cons', i_of', i_rng1', i_rng2', i_enum', i_zip', i_rev', s_nil', s_cons', t_asg, t_par, t_ret, t_retN, t_ite, t_for, t_ex, t_put, t_app, t_ext, t_brk, t_cnt, cmpK, iteK, notK, bopK, tupK, lstK, iteS, asgK, parK, escE, escL, escI, dem, dem1, getN, binW, addW, mulW, int2, b1W, lenW, tupleW, listW, intW, isiW, ixW, cmpW, wBool, wInt, isNone, asgE, asgT, asgTs, Tg.is, TgL.is, wipeE, fresh, isBox, datas, W.data?, opt_some, opt_none, ↓M.bind_ret, M.bind_stuck, M.nox_ret, itOf, itEnum, itZip, itRev, ownAt, ownL, W.i, W.b, List.map_cons, List.map_nil, List.set, List.getElem?_cons_zero, List.getElem?_cons_succ, List.length_cons, List.length_nil, List.replicate, List.append_nil, List.nil_append, List.cons_append, ite_true, ite_false, Bool.false_eq_true, reduceCtorEq, if_true, if_false, seqK_nx, seqK_rt, seqK_bk, seqK_ct, finK_rt, finK_nx, parE, t_whl, t_pop, ↓M.bind_assoc, seqW, List.map_map, List.length_map, Nat.reduceAdd, Nat.reduceLT, Option.map_some, Bool.not_true, Bool.not_false, ordW_int, eqW_int, intB, Bool.and_self, Bool.false_and, Bool.and_false, Bool.true_and, Bool.and_true, Bool.or_false, Bool.false_or, Bool.true_or, Bool.or_true, decide_true, decide_false, gm]
        · rw [← hPP]
          refine ⟨rfl, ⟨fo ++ ms, ms, _, _, _, _, ⟨hms.ok, by rw [Nat.pow_succ]; omega⟩, ⟨fun m hm => ?_, by rw [List.length_append, Nat.pow_succ]; omega⟩, .inl rfl, rfl⟩⟩
          rcases List.mem_append.mp hm with hm | hm
          · exact ⟨(hfo.ok m hm).1, by have := (hfo.ok m hm).2; omega⟩
          · exact hms.ok m hm
    rcases h2 with rfl | rfl
    · simpa [v_v, v_non, v_bl, v_int, v_str, v_gl, v_fn, v_tup, v_lst, v_dnew, v_bin, v_neg, v_cmp, v_chain, v_isN, v_notN, v_bop, v_b1, v_b2, v_not, v_ite, v_ix, v_sl, v_call, v_callk, v_callv, v_bi, v_isi, v_comp, itB, escB, l_nil, l_cons, o_nil, o_cons, c_nil', c_cons', i_of', i_rng1', i_rng2', i_enum', i_zip', i_rev', s_nil', s_cons', t_asg, t_par, t_ret, t_retN, t_ite, t_for, t_ex, t_put, t_app, t_ext, t_brk, t_cnt, cmpK, iteK, notK, bopK, tupK, lstK, iteS, asgK, parK, escE, escL, escI, dem, dem1, getN, binW, addW, mulW, int2, b1W, lenW, tupleW, listW, intW, isiW, ixW, cmpW, wBool, wInt, isNone, asgE, asgT, asgTs, Tg.is, TgL.is, wipeE, fresh, isBox, datas, W.data?, opt_some, opt_none, ↓M.bind_ret, M.bind_stuck, M.nox_ret, itOf, itEnum, itZip, itRev, ownAt, ownL, W.i, W.b, List.map_cons, List.map_nil, List.set, List.getElem?_cons_zero, List.getElem?_cons_succ, List.length_cons, List.length_nil, List.replicate, List.append_nil, List.nil_append, List.cons_append, ite_true, ite_false, Bool.false_eq_true, reduceCtorEq, if_true, if_false, seqK_nx, seqK_rt, seqK_bk, seqK_ct, finK_rt, finK_nx, parE, t_whl, t_pop, ↓M.bind_assoc, seqW, List.map_map, List.length_map, Nat.reduceAdd, Nat.reduceLT, Option.map_some, Bool.not_true, Bool.not_false, ordW_int, eqW_int, intB, Bool.and_self, Bool.false_and, Bool.and_false, Bool.true_and, Bool.and_true, Bool.or_false, Bool.false_or, Bool.true_or, Bool.or_true, decide_true, decide_false] using go
    · simpa [v_v, v_non, v_bl, v_int, v_str, v_gl, v_fn, v_tup, v_lst, v_dnew, v_bin, v_neg, v_cmp, v_chain, v_isN, v_notN, v_bop, v_b1, v_b2, v_not, v_ite, v_ix, v_sl, v_call, v_callk, v_callv, v_bi, v_isi, v_comp, itB, escB, l_nil, l_cons, o_nil, o_cons, c_nil', c_cons', i_of', i_rng1', i_rng2', i_enum', i_zip', i_rev', s_nil', s_cons', t_asg, t_par, t_ret, t_retN, t_ite, t_for, t_ex, t_put, t_app, t_ext, t_brk, t_cnt, cmpK, iteK, notK, bopK, tupK, lstK, iteS, asgK, parK, escE, escL, escI, dem, dem1, getN, binW, addW, mulW, int2, b1W, lenW, tupleW, listW, intW, isiW, ixW, cmpW, wBool, wInt, isNone, asgE, asgT, asgTs, Tg.is, TgL.is, wipeE, fresh, isBox, datas, W.data?, opt_some, opt_none, ↓M.bind_ret, M.bind_stuck, M.nox_ret, itOf, itEnum, itZip, itRev, ownAt, ownL, W.i, W.b, List.map_cons, List.map_nil, List.set, List.getElem?_cons_zero, List.getElem?_cons_succ, List.length_cons, List.length_nil, List.replicate, List.append_nil, List.nil_append, List.cons_append, ite_true, ite_false, Bool.false_eq_true, reduceCtorEq, if_true, if_false, seqK_nx, seqK_rt, seqK_bk, seqK_ct, finK_rt, finK_nx, parE, t_whl, t_pop, ↓M.bind_assoc, seqW, List.map_map, List.length_map, Nat.reduceAdd, Nat.reduceLT, Option.map_some, Bool.not_true, Bool.not_false, ordW_int, eqW_int, intB, Bool.and_self, Bool.false_and, Bool.and_false, Bool.true_and, Bool.and_true, Bool.or_false, Bool.false_or, Bool.true_or, Bool.or_true, decide_true, decide_false] using go
  · subst hr
    refine Ok.of (a := .d (.list (fo.map csD))) (by simp [v_v, v_non, v_bl, v_int, v_str, v_gl, v_fn, v_tup, v_lst, v_dnew, v_bin, v_neg, v_cmp, v_chain, v_isN, v_notN, v_bop, v_b1, v_b2, v_not, v_ite, v_ix, v_sl, v_call, v_callk, v_callv, v_bi, v_isi, v_comp, itB, escB, l_nil, l_cons, o_nil, o_cons, c_nil', c_cons', i_of', i_rng1', i_rng2', i_enum', i_zip', i_rev', s_nil', s_cons', t_asg, t_par, t_ret, t_retN, t_ite, t_for, t_ex, t_put, t_app, t_ext, t_brk, t_cnt, cmpK, iteK, notK, bopK, tupK, lstK, iteS, asgK, parK, escE, escL, escI, dem, dem1, getN, binW, addW, mulW, int2, b1W, lenW, tupleW, listW, intW, isiW, ixW, cmpW, wBool, wInt, isNone, asgE, asgT, asgTs, Tg.is, TgL.is, wipeE, fresh, isBox, datas, W.data?, opt_some, opt_none, ↓M.bind_ret, M.bind_stuck, M.nox_ret, itOf, itEnum, itZip, itRev, ownAt, ownL, W.i, W.b, List.map_cons, List.map_nil, List.set, List.getElem?_cons_zero, List.getElem?_cons_succ, List.length_cons, List.length_nil, List.replicate, List.append_nil, List.nil_append, List.cons_append, ite_true, ite_false, Bool.false_eq_true, reduceCtorEq, if_true, if_false, seqK_nx, seqK_rt, seqK_bk, seqK_ct, finK_rt, finK_nx, parE, t_whl, t_pop, ↓M.bind_assoc, seqW, List.map_map, List.length_map, Nat.reduceAdd, Nat.reduceLT, Option.map_some, Bool.not_true, Bool.not_false, ordW_int, eqW_int, intB, Bool.and_self, Bool.false_and, Bool.and_false, Bool.true_and, Bool.and_true, Bool.or_false, Bool.false_or, Bool.true_or, Bool.or_true, decide_true, decide_false]) ⟨fo, rfl, ?_⟩
    rw [hu3] at hfo
    exact hfo
end PDK24
end DS

set_option Elab.async false
set_option linter.all false
set_option autoImplicit false
set_option maxRecDepth 100000
set_option maxHeartbeats 8000000
namespace DS
namespace PDK24
open PySem PySem.Spec PySem.SeqAt PyProof.Rows L2 DK24
/-! ### what is asked of goals -/
theorem free_mem {n x : Int} {pu mv : List Int} : x ∈ freeL n pu mv ↔ (0 ≤ x ∧ x < n) ∧ x ∉ pu ∧ x ∉ mv := by
  unfold freeL
  rw [List.mem_filter, upto_mem']
  simp
theorem free_asc (n : Int) (pu mv : List Int) : (freeL n pu mv).Pairwise (· < ·) := (upto_asc' n).sublist List.filter_sublist
section
variable {n : Int} {ar : List (Int × Int)} {cs : List (List Int)} {tr pu se as mv : List Int}
theorem goal_mem (q : QuOk n ar cs tr pu se as) {x : Int} : x ∈ goalL n ar pu se as mv ↔ x ∈ freeL n pu mv ∧ Comes ar (freeL n pu mv) (se.filter (fun x => decide (x ∉ mv)) ++ as) x := lead_mem (fun p hp => (q.d.ar.ok p hp).2.1) (free_asc n pu mv) x
theorem goal_set (q : QuOk n ar cs tr pu se as) (mv : List Int) : SetOk (n - 1) (goalL n ar pu se as mv) := by
  have hc : cap = 100000 := rfl
  have hn := q.d.hi
  have a : (goalL n ar pu se as mv).Pairwise (· < ·) := lead_asc (free_asc n pu mv)
  have hr : ∀ x ∈ goalL n ar pu se as mv, 0 ≤ x ∧ x < n := fun x hx => (free_mem.mp ((goal_mem q).mp hx).1).1
  refine ⟨fun x hx => by have := hr x hx; omega, a, ?_⟩
  have := nodup_sub_len (asc_nodup' a) (m := upto n) fun x hx => upto_mem'.mpr (hr x hx)
  have := upto_len' n
  omega
theorem goal_sub (q : QuOk n ar cs tr pu se as) {x : Int} (hx : x ∈ goalL n ar pu se as mv) : x ∈ goalL n ar pu se as [] ∧ x ∉ pu ∧ x ∉ mv := by
  obtain ⟨h1, h2⟩ := (goal_mem q).mp hx
  have h3 := free_mem.mp h1
  refine ⟨(goal_mem q).mpr ⟨free_mem.mpr ⟨h3.1, h3.2.1, by simp⟩, comes_mono (fun _ z => z) (fun z hz => free_mem.mpr ⟨(free_mem.mp hz).1, (free_mem.mp hz).2.1, by simp⟩) (fun z hz => ?_) h2⟩, h3.2⟩
  rcases List.mem_append.mp hz with hz | hz
  · exact List.mem_append_left _ (List.mem_filter.mpr ⟨(List.mem_filter.mp hz).1, by simp⟩)
  · exact List.mem_append_right _ hz
theorem goal_up (q : QuOk n ar cs tr pu se as) {x y : Int} (ha : (y, x) ∈ ar) (hx : x ∈ goalL n ar pu se as mv) (h1 : y ∉ pu) (h2 : y ∉ mv) : y ∈ goalL n ar pu se as mv := by
  obtain ⟨h3, h4⟩ := (goal_mem q).mp hx
  have hp := q.d.ar.ok _ ha
  have h5 := free_mem.mp h3
  unfold ArrowOk at hp
  exact (goal_mem q).mpr ⟨free_mem.mpr ⟨⟨hp.1, by have := hp.2.1; have := hp.2.2; dsimp only at *; omega⟩, h1, h2⟩, .step ha h3 h4⟩
theorem goal_has (q : QuOk n ar cs tr pu se as) (m : MvOk se mv) {x : Int} (hx : x ∈ as) : x ∈ goalL n ar pu se as mv := by
  have hr := q.sas.rng x hx
  exact (goal_mem q).mpr ⟨free_mem.mpr ⟨by omega, q.dap x hx, fun z => q.das x hx (m.sub x z)⟩, .here (List.mem_append_right _ hx)⟩
end
def turnS : SL := match b26 with
  | .cons _ (.cons _ (.cons _ (.cons (.forr _ _ s) _))) => s
  | _ => .nil
def bodyN : SL := match turnS with
  | .cons _ (.cons _ (.cons _ (.cons (.forr _ _ s) _))) => s
  | _ => .nil
structure RI (Q D T P S A Wh : W) (c7 c8 : C) (r : Env) : Prop where
  ex : ∃ c10 c11 : C, r = [.sh Q, .sh D, .sh T, .sh P, .sh S, .sh A, .sh Wh, c7, c8, .no, c10, c11]

theorem turn_ok {fs : Fns} {n : Int} {ar : List (Int × Int)} {cs : List (List Int)} {tr pu se as mv : List Int} (q : QuOk n ar cs tr pu se as) (m : MvOk se mv) (e20 : SpGoal (applyF fs 20)) (e24 : SlDue (applyF fs 24)) (h2 : ∀ ws, applyF fs 2 ws = likeF ws) (c8 c10 c11 : C) :
    ∃ c8' c10' c11' : C, evSL fs gss 200 turnS [.sh (quW n ar cs tr pu se as), .sh (drW n ar cs), .sh (tI tr), .sh (tI pu), .sh (tI se), .sh (tI as), .sh (tI (goalL n ar pu se as [])), .sh (tI mv), c8, .no, c10, c11] = .ret (.nx, [.sh (quW n ar cs tr pu se as), .sh (drW n ar cs), .sh (tI tr), .sh (tI pu), .sh (tI se), .sh (tI as), .sh (tI (goalL n ar pu se as [])), .sh (tI mv), c8', .no, c10', c11']) := by
  have hc : cap = 100000 := rfl
  obtain ⟨l1, l2, l3, l4⟩ := q.lens
  have hm := m.len
  have hs := goal_set q mv
  have hl := set_len hs
  have hn := q.d.hi
  have a20 := e20 n ar cs tr pu se as mv q m
  have a24 := e24 n ar cs tr pu se as mv q (by omega)
  have lk := (h2 _).trans (like_eq ((sho_set hs (by omega) (by omega)).ok (by omega) (by omega)) rfl)
  have g1 := fun x => goal_sub (mv := mv) q (x := x)
  have g2 := fun x y => goal_up (mv := mv) q (x := x) (y := y)
  have g3 := fun x => goal_has q m (x := x)
  generalize goalL n ar pu se as mv = due at *
  generalize goalL n ar pu se as [] = wh at *
  have k1 : (due.filter fun x => decide (x ∉ wh) || (decide (x ∈ pu) || decide (x ∈ mv))).isEmpty = true := by
    rw [List.isEmpty_iff, List.filter_eq_nil_iff]
    intro x hx
    have := g1 x hx
    simp [this]
  have k2 : (as.filter fun x => decide (x ∉ due)).isEmpty = true := none_out g3
  have hN := fun c10 c11 => forR_invM (fs := fs) (gs := gss) (fu := 200) (tg := .t (.cons (.n 10) (.cons (.n 11) .nil))) (body := bodyN) (W.d ∘ prD) (fun _ r => RI (quW n ar cs tr pu se as) (drW n ar cs) (tI tr) (tI pu) (tI se) (tI as) (tI wh) (.sh (tI mv)) (.sh (tI due)) r) (xs := ar)
    (r := [.sh (quW n ar cs tr pu se as), .sh (drW n ar cs), .sh (tI tr), .sh (tI pu), .sh (tI se), .sh (tI as), .sh (tI wh), .sh (tI mv), .sh (tI due), .no, c10, c11]) ⟨_, _, rfl⟩ (fun i p r hi ⟨⟨c10, c11, hr⟩⟩ => by
      subst hr
      have ha := List.mem_of_getElem? hi
      obtain ⟨y, x⟩ := p
      refine ⟨[.sh (quW n ar cs tr pu se as), .sh (drW n ar cs), .sh (tI tr), .sh (tI pu), .sh (tI se), .sh (tI as), .sh (tI wh), .sh (tI mv), .sh (tI due), .no, .sh (.d (.int y)), .sh (.d (.int x))], [.sh (quW n ar cs tr pu se as), .sh (drW n ar cs), .sh (tI tr), .sh (tI pu), .sh (tI se), .sh (tI as), .sh (tI wh), .sh (tI mv), .sh (tI due), .no, .sh (.d (.int y)), .sh (.d (.int x))], rfl, ?_, ⟨_, _, rfl⟩⟩
      simp only [bodyN, turnS, b26]
      by_cases p1 : x ∈ due <;> by_cases p2 : y ∈ due <;> by_cases p3 : y ∈ pu <;> by_cases p4 : y ∈ mv <;> simp [v_v, v_non, v_bl, v_int, v_str, v_gl, v_fn, v_tup, v_lst, v_dnew, v_bin, v_neg, v_cmp, v_chain, v_isN, v_notN, v_bop, v_b1, v_b2, v_not, v_ite, v_ix, v_sl, v_call, v_callk, v_callv, v_bi, v_isi, v_comp, itB, escB, l_nil, l_cons, o_nil, o_cons, c_nil', c_cons', i_of', i_rng1', i_rng2', i_enum', i_zip', i_rev', s_nil', s_cons', t_asg, t_par, t_ret, t_retN, t_ite, t_for, t_ex, t_put, t_app, t_ext, t_brk, t_cnt, cmpK, iteK, notK, bopK, tupK, lstK, iteS, asgK, parK, escE, escL, escI, dem, dem1, getN, binW, addW, mulW, int2, b1W, lenW, tupleW, listW, intW, isiW, ixW, cmpW, wBool, wInt, isNone, asgE, asgT, asgTs, Tg.is, TgL.is, wipeE, fresh, isBox, datas, W.data?, opt_some, opt_none, ↓M.bind_ret, M.bind_stuck, M.nox_ret, itOf, itEnum, itZip, itRev, ownAt, ownL, W.i, W.b, List.map_cons, List.map_nil, List.set, List.getElem?_cons_zero, List.getElem?_cons_succ, List.length_cons, List.length_nil, List.replicate, List.append_nil, List.nil_append, List.cons_append, ite_true, ite_false, Bool.false_eq_true, reduceCtorEq, if_true, if_false, seqK_nx, seqK_rt, seqK_bk, seqK_ct, finK_rt, finK_nx, parE, t_whl, t_pop, ↓M.bind_assoc, seqW, List.map_map, List.length_map, Nat.reduceAdd, Nat.reduceLT, Option.map_some, Bool.not_true, Bool.not_false, ordW_int, eqW_int, intB, Bool.and_self, Bool.false_and, Bool.and_false, Bool.true_and, Bool.and_true, Bool.or_false, Bool.false_or, Bool.true_or, Bool.or_true, decide_true, decide_false, p1, p2, p3, p4]
      exact p2 (g2 x y ha p1 p3 p4))
  obtain ⟨r', h1, ⟨c10', c11', hr⟩⟩ := hN c10 c11
  refine ⟨.sh (tI due), c10', c11', ?_⟩
  subst hr
  simp only [bodyN, turnS, b26] at h1
  simp only [tI, W.b] at a20 a24 lk h1
  have has : as.length ≤ cap := by omega
  have hdl : due.length ≤ cap := by omega
  simp only [turnS, b26, v_v, v_non, v_bl, v_int, v_str, v_gl, v_fn, v_tup, v_lst, v_dnew, v_bin, v_neg, v_cmp, v_chain, v_isN, v_notN, v_bop, v_b1, v_b2, v_not, v_ite, v_ix, v_sl, v_call, v_callk, v_callv, v_bi, v_isi, v_comp, itB, escB, l_nil, l_cons, o_nil, o_cons, c_nil', c_cons', i_of', i_rng1', i_rng2', i_enum', i_zip', i_rev', s_nil', s_cons', t_asg, t_par, t_ret, t_retN, t_ite, t_for, t_ex, t_put, t_app, t_ext, t_brk, t_cnt, cmpK, iteK, notK, bopK, tupK, lstK, iteS, asgK, parK, escE, escL, escI, dem, dem1, getN, binW, addW, mulW, int2, b1W, lenW, tupleW, listW, intW, isiW, ixW, cmpW, wBool, wInt, isNone, asgE, asgT, asgTs, Tg.is, TgL.is, wipeE, fresh, isBox, datas, W.data?, opt_some, opt_none, ↓M.bind_ret, M.bind_stuck, M.nox_ret, itOf, itEnum, itZip, itRev, ownAt, ownL, W.i, W.b, List.map_cons, List.map_nil, List.set, List.getElem?_cons_zero, List.getElem?_cons_succ, List.length_cons, List.length_nil, List.replicate, List.append_nil, List.nil_append, List.cons_append, ite_true, ite_false, Bool.false_eq_true, reduceCtorEq, if_true, if_false, seqK_nx, seqK_rt, seqK_bk, seqK_ct, finK_rt, finK_nx, parE, t_whl, t_pop, ↓M.bind_assoc, seqW, List.map_map, List.length_map, Nat.reduceAdd, Nat.reduceLT, Option.map_some, Bool.not_true, Bool.not_false, ordW_int, eqW_int, intB, Bool.and_self, Bool.false_and, Bool.and_false, Bool.true_and, Bool.and_true, Bool.or_false, Bool.false_or, Bool.true_or, Bool.or_true, decide_true, decide_false, a20, a24, lk]
  refine (M.bind_eq (compR_fm (W.d ∘ PyData.int) (fun x => decide (x ∉ wh) || (decide (x ∈ pu) || decide (x ∈ mv))) (fun _ => .int 1) hdl fun y hy => by by_cases q1 : y ∈ wh <;> by_cases q2 : y ∈ pu <;> by_cases q3 : y ∈ mv <;> simp [stepC, v_v, v_non, v_bl, v_int, v_str, v_gl, v_fn, v_tup, v_lst, v_dnew, v_bin, v_neg, v_cmp, v_chain, v_isN, v_notN, v_bop, v_b1, v_b2, v_not, v_ite, v_ix, v_sl, v_call, v_callk, v_callv, v_bi, v_isi, v_comp, itB, escB, l_nil, l_cons, o_nil, o_cons, c_nil', c_cons', i_of', i_rng1', i_rng2', i_enum', i_zip', i_rev', s_nil', s_cons', t_asg, t_par, t_ret, t_retN, t_ite, t_for, t_ex, t_put, t_app, t_ext, t_brk, t_cnt, cmpK, iteK, notK, bopK, tupK, lstK, iteS, asgK, parK, escE, escL, escI, dem, dem1, getN, binW, addW, mulW, int2, b1W, lenW, tupleW, listW, intW, isiW, ixW, cmpW, wBool, wInt, isNone, asgE, asgT, asgTs, Tg.is, TgL.is, wipeE, fresh, isBox, datas, W.data?, opt_some, opt_none, ↓M.bind_ret, M.bind_stuck, M.nox_ret, itOf, itEnum, itZip, itRev, ownAt, ownL, W.i, W.b, List.map_cons, List.map_nil, List.set, List.getElem?_cons_zero, List.getElem?_cons_succ, List.length_cons, List.length_nil, List.replicate, List.append_nil, List.nil_append, List.cons_append, ite_true, ite_false, Bool.false_eq_true, reduceCtorEq, if_true, if_false, seqK_nx, seqK_rt, seqK_bk, seqK_ct, finK_rt, finK_nx, parE, t_whl, t_pop, ↓M.bind_assoc, seqW, List.map_map, List.length_map, Nat.reduceAdd, Nat.reduceLT, Option.map_some, Bool.not_true, Bool.not_false, ordW_int, eqW_int, intB, Bool.and_self, Bool.false_and, Bool.and_false, Bool.true_and, Bool.and_true, Bool.or_false, Bool.false_or, Bool.true_or, Bool.or_true, decide_true, decide_false, q1, q2, q3])).trans ?_
  simp only [v_v, v_non, v_bl, v_int, v_str, v_gl, v_fn, v_tup, v_lst, v_dnew, v_bin, v_neg, v_cmp, v_chain, v_isN, v_notN, v_bop, v_b1, v_b2, v_not, v_ite, v_ix, v_sl, v_call, v_callk, v_callv, v_bi, v_isi, v_comp, itB, escB, l_nil, l_cons, o_nil, o_cons, c_nil', c_cons', i_of', i_rng1', i_rng2', i_enum', i_zip', i_rev', s_nil', s_cons', t_asg, t_par, t_ret, t_retN, t_ite, t_for, t_ex, t_put, t_app, t_ext, t_brk, t_cnt, cmpK, iteK, notK, bopK, tupK, lstK, iteS, asgK, parK, escE, escL, escI, dem, dem1, getN, binW, addW, mulW, int2, b1W, lenW, tupleW, listW, intW, isiW, ixW, cmpW, wBool, wInt, isNone, asgE, asgT, asgTs, Tg.is, TgL.is, wipeE, fresh, isBox, datas, W.data?, opt_some, opt_none, ↓M.bind_ret, M.bind_stuck, M.nox_ret, itOf, itEnum, itZip, itRev, ownAt, ownL, W.i, W.b, List.map_cons, List.map_nil, List.set, List.getElem?_cons_zero, List.getElem?_cons_succ, List.length_cons, List.length_nil, List.replicate, List.append_nil, List.nil_append, List.cons_append, ite_true, ite_false, Bool.false_eq_true, reduceCtorEq, if_true, if_false, seqK_nx, seqK_rt, seqK_bk, seqK_ct, finK_rt, finK_nx, parE, t_whl, t_pop, ↓M.bind_assoc, seqW, List.map_map, List.length_map, Nat.reduceAdd, Nat.reduceLT, Option.map_some, Bool.not_true, Bool.not_false, ordW_int, eqW_int, intB, Bool.and_self, Bool.false_and, Bool.and_false, Bool.true_and, Bool.and_true, Bool.or_false, Bool.false_or, Bool.true_or, Bool.or_true, decide_true, decide_false, eqW_ones, k1, at3_1]
  refine (M.bind_eq h1).trans ?_
  simp only [v_v, v_non, v_bl, v_int, v_str, v_gl, v_fn, v_tup, v_lst, v_dnew, v_bin, v_neg, v_cmp, v_chain, v_isN, v_notN, v_bop, v_b1, v_b2, v_not, v_ite, v_ix, v_sl, v_call, v_callk, v_callv, v_bi, v_isi, v_comp, itB, escB, l_nil, l_cons, o_nil, o_cons, c_nil', c_cons', i_of', i_rng1', i_rng2', i_enum', i_zip', i_rev', s_nil', s_cons', t_asg, t_par, t_ret, t_retN, t_ite, t_for, t_ex, t_put, t_app, t_ext, t_brk, t_cnt, cmpK, iteK, notK, bopK, tupK, lstK, iteS, asgK, parK, escE, escL, escI, dem, dem1, getN, binW, addW, mulW, int2, b1W, lenW, tupleW, listW, intW, isiW, ixW, cmpW, wBool, wInt, isNone, asgE, asgT, asgTs, Tg.is, TgL.is, wipeE, fresh, isBox, datas, W.data?, opt_some, opt_none, ↓M.bind_ret, M.bind_stuck, M.nox_ret, itOf, itEnum, itZip, itRev, ownAt, ownL, W.i, W.b, List.map_cons, List.map_nil, List.set, List.getElem?_cons_zero, List.getElem?_cons_succ, List.length_cons, List.length_nil, List.replicate, List.append_nil, List.nil_append, List.cons_append, ite_true, ite_false, Bool.false_eq_true, reduceCtorEq, if_true, if_false, seqK_nx, seqK_rt, seqK_bk, seqK_ct, finK_rt, finK_nx, parE, t_whl, t_pop, ↓M.bind_assoc, seqW, List.map_map, List.length_map, Nat.reduceAdd, Nat.reduceLT, Option.map_some, Bool.not_true, Bool.not_false, ordW_int, eqW_int, intB, Bool.and_self, Bool.false_and, Bool.and_false, Bool.true_and, Bool.and_true, Bool.or_false, Bool.false_or, Bool.true_or, Bool.or_true, decide_true, decide_false]
  refine (M.bind_eq (compR_fm (W.d ∘ PyData.int) (fun x => decide (x ∉ due)) (fun _ => .int 1) has fun y hy => by by_cases q1 : y ∈ due <;> simp [stepC, v_v, v_non, v_bl, v_int, v_str, v_gl, v_fn, v_tup, v_lst, v_dnew, v_bin, v_neg, v_cmp, v_chain, v_isN, v_notN, v_bop, v_b1, v_b2, v_not, v_ite, v_ix, v_sl, v_call, v_callk, v_callv, v_bi, v_isi, v_comp, itB, escB, l_nil, l_cons, o_nil, o_cons, c_nil', c_cons', i_of', i_rng1', i_rng2', i_enum', i_zip', i_rev', s_nil', s_cons', t_asg, t_par, t_ret, t_retN, t_ite, t_for, t_ex, t_put, t_app, t_ext, t_brk, t_cnt, cmpK, iteK, notK, bopK, tupK, lstK, iteS, asgK, parK, escE, escL, escI, dem, dem1, getN, binW, addW, mulW, int2, b1W, lenW, tupleW, listW, intW, isiW, ixW, cmpW, wBool, wInt, isNone, asgE, asgT, asgTs, Tg.is, TgL.is, wipeE, fresh, isBox, datas, W.data?, opt_some, opt_none, ↓M.bind_ret, M.bind_stuck, M.nox_ret, itOf, itEnum, itZip, itRev, ownAt, ownL, W.i, W.b, List.map_cons, List.map_nil, List.set, List.getElem?_cons_zero, List.getElem?_cons_succ, List.length_cons, List.length_nil, List.replicate, List.append_nil, List.nil_append, List.cons_append, ite_true, ite_false, Bool.false_eq_true, reduceCtorEq, if_true, if_false, seqK_nx, seqK_rt, seqK_bk, seqK_ct, finK_rt, finK_nx, parE, t_whl, t_pop, ↓M.bind_assoc, seqW, List.map_map, List.length_map, Nat.reduceAdd, Nat.reduceLT, Option.map_some, Bool.not_true, Bool.not_false, ordW_int, eqW_int, intB, Bool.and_self, Bool.false_and, Bool.and_false, Bool.true_and, Bool.and_true, Bool.or_false, Bool.false_or, Bool.true_or, Bool.or_true, decide_true, decide_false, q1])).trans ?_
  simp only [v_v, v_non, v_bl, v_int, v_str, v_gl, v_fn, v_tup, v_lst, v_dnew, v_bin, v_neg, v_cmp, v_chain, v_isN, v_notN, v_bop, v_b1, v_b2, v_not, v_ite, v_ix, v_sl, v_call, v_callk, v_callv, v_bi, v_isi, v_comp, itB, escB, l_nil, l_cons, o_nil, o_cons, c_nil', c_cons', i_of', i_rng1', i_rng2', i_enum', i_zip', i_rev', s_nil', s_cons', t_asg, t_par, t_ret, t_retN, t_ite, t_for, t_ex, t_put, t_app, t_ext, t_brk, t_cnt, cmpK, iteK, notK, bopK, tupK, lstK, iteS, asgK, parK, escE, escL, escI, dem, dem1, getN, binW, addW, mulW, int2, b1W, lenW, tupleW, listW, intW, isiW, ixW, cmpW, wBool, wInt, isNone, asgE, asgT, asgTs, Tg.is, TgL.is, wipeE, fresh, isBox, datas, W.data?, opt_some, opt_none, ↓M.bind_ret, M.bind_stuck, M.nox_ret, itOf, itEnum, itZip, itRev, ownAt, ownL, W.i, W.b, List.map_cons, List.map_nil, List.set, List.getElem?_cons_zero, List.getElem?_cons_succ, List.length_cons, List.length_nil, List.replicate, List.append_nil, List.nil_append, List.cons_append, ite_true, ite_false, Bool.false_eq_true, reduceCtorEq, if_true, if_false, seqK_nx, seqK_rt, seqK_bk, seqK_ct, finK_rt, finK_nx, parE, t_whl, t_pop, ↓M.bind_assoc, seqW, List.map_map, List.length_map, Nat.reduceAdd, Nat.reduceLT, Option.map_some, Bool.not_true, Bool.not_false, ordW_int, eqW_int, intB, Bool.and_self, Bool.false_and, Bool.and_false, Bool.true_and, Bool.and_true, Bool.or_false, Bool.false_or, Bool.true_or, Bool.or_true, decide_true, decide_false, eqW_ones, k2]
theorem sho_ints' {xs : List Int} {m : Int} (h : ∀ x ∈ xs, 0 ≤ x ∧ x ≤ m) (hm : m ≤ 1000) (hl : xs.length ≤ 100) : Sho 100 1 (.tuple (xs.map PyData.int)) := (sho_ints fun x hx => by have := h x hx; omega).mono hl (Nat.le_refl _)
structure MI (Q D T P S A Wh : W) (r : Env) : Prop where
  ex : ∃ c7 c8 c10 c11 : C, r = [.sh Q, .sh D, .sh T, .sh P, .sh S, .sh A, .sh Wh, c7, c8, .no, c10, c11]
structure SlRight (F : Fn1) : Prop where
  ok : ∀ n ar cs tr pu se as, QuOk n ar cs tr pu se as → Ok 0 (F [quW n ar cs tr pu se as]) (fun w => w = .b true)

theorem right_ok : SlRight F26 := .mk fun n ar cs tr pu se as q => by
  show Ok 0 (evD fs26 gss 200 12 1 b26 _) _
  have e19 : SpThings (applyF fs26 19) := by rw [show applyF fs26 19 = F19 from rfl]; exact f_things_of
  have e20 : SpGoal (applyF fs26 20) := by rw [show applyF fs26 20 = F20 from rfl]; exact f_goal
  have e24 : SlDue (applyF fs26 24) := by rw [show applyF fs26 24 = F24 from rfl]; exact due_ok
  have e25 : SlMoves (applyF fs26 25) := by rw [show applyF fs26 25 = F25 from rfl]; exact moves_ok (fs := fs25)
  have h2 : ∀ ws, applyF fs26 2 ws = likeF ws := congrFun (show applyF fs26 2 = F2 from rfl)
  generalize fs26 = fs at *
  have hc : cap = 100000 := rfl
  obtain ⟨l1, l2, l3, l4⟩ := q.lens
  have hn := q.d.hi
  have a19 := e19 n ar cs tr pu se as q
  have a24 := e24 n ar cs tr pu se as [] q (by simp)
  have tn := fun mv m => turn_ok (mv := mv) q m e20 e24 h2
  have lk := (h2 _).trans (like_eq ((sho_ints' (xs := sortI (pu ++ se ++ as)) (m := n - 1) (fun x hx => by
    have hx := (sortI_perm _).mem_iff.mp hx
    rcases List.mem_append.mp hx with hx | hx
    · rcases List.mem_append.mp hx with hx | hx
      · exact q.spu.rng x hx
      · exact q.sse.rng x hx
    · exact q.sas.rng x hx) (by omega) (by rw [(sortI_perm _).length_eq]; simp; omega)).ok (by omega) (by omega)) rfl)
  have g1 : pu.length + se.length ≤ cap := by omega
  have g2 : pu.length + se.length + as.length ≤ cap := by omega
  have s := sortedW_T (xs := pu ++ se ++ as) (by simp; omega)
  simp only [List.map_append] at s
  have e25 := e25.ok _ se q.sse l3
  simp only [tI, W.b, List.map_nil] at a19 a24 lk e25 s
  rw [d_run 12 1 _ _ rfl]
  rw [show b26 = .cons (.asg (.t (.cons (.n 1) (.cons (.n 2) (.cons (.n 3) (.cons (.n 4) (.cons (.n 5) .nil)))))) (.v 0)) (.cons (.ite (.not (.call 2 (.cons (.call 19 (.cons (.v 0) .nil)) (.cons (.b1 .tuple (.b1 .sorted (.bin .add (.bin .add (.v 3) (.v 4)) (.v 5)))) .nil)))) (.cons (.ret (.bl false)) .nil) .nil) (.cons (.asg (.n 6) (.call 24 (.cons (.v 0) (.cons (.tup .nil) .nil)))) (.cons (.forr (.n 7) (.of (.call 25 (.cons (.v 4) .nil))) turnS) (.cons (.ret (.bl true)) .nil)))) from rfl]
  generalize turnS = TS at *
  simp only [v_v, v_non, v_bl, v_int, v_str, v_gl, v_fn, v_tup, v_lst, v_dnew, v_bin, v_neg, v_cmp, v_chain, v_isN, v_notN, v_bop, v_b1, v_b2, v_not, v_ite, v_ix, v_sl, v_call, v_callk, v_callv, v_bi, v_isi, v_comp, itB, escB, l_nil, l_cons, o_nil, o_cons, c_nil', c_cons', i_of', i_rng1', i_rng2', i_enum', i_zip', i_rev', s_nil', s_cons', t_asg, t_par, t_ret, t_retN, t_ite, t_for, t_ex, t_put, t_app, t_ext, t_brk, t_cnt, cmpK, iteK, notK, bopK, tupK, lstK, iteS, asgK, parK, escE, escL, escI, dem, dem1, getN, binW, addW, mulW, int2, b1W, lenW, tupleW, listW, intW, isiW, ixW, cmpW, wBool, wInt, isNone, asgE, asgT, asgTs, Tg.is, TgL.is, wipeE, fresh, isBox, datas, W.data?, opt_some, opt_none, ↓M.bind_ret, M.bind_stuck, M.nox_ret, itOf, itEnum, itZip, itRev, ownAt, ownL, W.i, W.b, List.map_cons, List.map_nil, List.set, List.getElem?_cons_zero, List.getElem?_cons_succ, List.length_cons, List.length_nil, List.replicate, List.append_nil, List.nil_append, List.cons_append, ite_true, ite_false, Bool.false_eq_true, reduceCtorEq, if_true, if_false, seqK_nx, seqK_rt, seqK_bk, seqK_ct, finK_rt, finK_nx, parE, t_whl, t_pop, ↓M.bind_assoc, seqW, List.map_map, List.length_map, Nat.reduceAdd, Nat.reduceLT, Option.map_some, Bool.not_true, Bool.not_false, ordW_int, eqW_int, intB, Bool.and_self, Bool.false_and, Bool.and_false, Bool.true_and, Bool.and_true, Bool.or_false, Bool.false_or, Bool.true_or, Bool.or_true, decide_true, decide_false, a19, lk, a24, g1, g2, List.length_append, s, List.map_nil]
  refine Ok.step (b1 := 0) (b2 := 0) e25 (by omega) fun w ⟨⟨ms, hw, hms⟩⟩ => ?_
  subst hw
  simp only [v_v, v_non, v_bl, v_int, v_str, v_gl, v_fn, v_tup, v_lst, v_dnew, v_bin, v_neg, v_cmp, v_chain, v_isN, v_notN, v_bop, v_b1, v_b2, v_not, v_ite, v_ix, v_sl, v_call, v_callk, v_callv, v_bi, v_isi, v_comp, itB, escB, l_nil, l_cons, o_nil, o_cons, c_nil', c_cons', i_of', i_rng1', i_rng2', i_enum', i_zip', i_rev', s_nil', s_cons', t_asg, t_par, t_ret, t_retN, t_ite, t_for, t_ex, t_put, t_app, t_ext, t_brk, t_cnt, cmpK, iteK, notK, bopK, tupK, lstK, iteS, asgK, parK, escE, escL, escI, dem, dem1, getN, binW, addW, mulW, int2, b1W, lenW, tupleW, listW, intW, isiW, ixW, cmpW, wBool, wInt, isNone, asgE, asgT, asgTs, Tg.is, TgL.is, wipeE, fresh, isBox, datas, W.data?, opt_some, opt_none, ↓M.bind_ret, M.bind_stuck, M.nox_ret, itOf, itEnum, itZip, itRev, ownAt, ownL, W.i, W.b, List.map_cons, List.map_nil, List.set, List.getElem?_cons_zero, List.getElem?_cons_succ, List.length_cons, List.length_nil, List.replicate, List.append_nil, List.nil_append, List.cons_append, ite_true, ite_false, Bool.false_eq_true, reduceCtorEq, if_true, if_false, seqK_nx, seqK_rt, seqK_bk, seqK_ct, finK_rt, finK_nx, parE, t_whl, t_pop, ↓M.bind_assoc, seqW, List.map_map, List.length_map, Nat.reduceAdd, Nat.reduceLT, Option.map_some, Bool.not_true, Bool.not_false, ordW_int, eqW_int, intB, Bool.and_self, Bool.false_and, Bool.and_false, Bool.true_and, Bool.and_true, Bool.or_false, Bool.false_or, Bool.true_or, Bool.or_true, decide_true, decide_false]
  refine Ok.for (b1 := 0) (b2 := 0) (W.d ∘ csD) (fun _ r => MI (quW n ar cs tr pu se as) (drW n ar cs) (tI tr) (tI pu) (tI se) (tI as) (tI (goalL n ar pu se as [])) r) ⟨_, _, _, _, rfl⟩ (fun i mv r hi ⟨⟨c7, c8, c10, c11, hr⟩⟩ => ?_) (by omega) fun r ⟨⟨c7, c8, c10, c11, hr⟩⟩ => ?_
  · subst hr
    obtain ⟨c8', c10', c11', e⟩ := tn mv (hms.ok mv (List.mem_of_getElem? hi)).1 c8 c10 c11
    exact ⟨[.sh (quW n ar cs tr pu se as), .sh (drW n ar cs), .sh (tI tr), .sh (tI pu), .sh (tI se), .sh (tI as), .sh (tI (goalL n ar pu se as [])), .sh (tI mv), c8, .no, c10, c11], rfl, Ok.of e ⟨rfl, ⟨_, _, _, _, rfl⟩⟩⟩
  · subst hr
    exact Ok.of (a := W.b true) (by simp [v_v, v_non, v_bl, v_int, v_str, v_gl, v_fn, v_tup, v_lst, v_dnew, v_bin, v_neg, v_cmp, v_chain, v_isN, v_notN, v_bop, v_b1, v_b2, v_not, v_ite, v_ix, v_sl, v_call, v_callk, v_callv, v_bi, v_isi, v_comp, itB, escB, l_nil, l_cons, o_nil, o_cons, c_nil', c_cons', i_of', i_rng1', i_rng2', i_enum', i_zip', i_rev', s_nil', s_cons', t_asg, t_par, t_ret, t_retN, t_ite, t_for, t_ex, t_put, t_app, t_ext, t_brk, t_cnt, cmpK, iteK, notK, bopK, tupK, lstK, iteS, asgK, parK, escE, escL, escI, dem, dem1, getN, binW, addW, mulW, int2, b1W, lenW, tupleW, listW, intW, isiW, ixW, cmpW, wBool, wInt, isNone, asgE, asgT, asgTs, Tg.is, TgL.is, wipeE, fresh, isBox, datas, W.data?, opt_some, opt_none, ↓M.bind_ret, M.bind_stuck, M.nox_ret, itOf, itEnum, itZip, itRev, ownAt, ownL, W.i, W.b, List.map_cons, List.map_nil, List.set, List.getElem?_cons_zero, List.getElem?_cons_succ, List.length_cons, List.length_nil, List.replicate, List.append_nil, List.nil_append, List.cons_append, ite_true, ite_false, Bool.false_eq_true, reduceCtorEq, if_true, if_false, seqK_nx, seqK_rt, seqK_bk, seqK_ct, finK_rt, finK_nx, parE, t_whl, t_pop, ↓M.bind_assoc, seqW, List.map_map, List.length_map, Nat.reduceAdd, Nat.reduceLT, Option.map_some, Bool.not_true, Bool.not_false, ordW_int, eqW_int, intB, Bool.and_self, Bool.false_and, Bool.and_false, Bool.true_and, Bool.and_true, Bool.or_false, Bool.false_or, Bool.true_or, Bool.or_true, decide_true, decide_false]) rfl
end PDK24
end DS

set_option Elab.async false
set_option linter.all false
set_option autoImplicit false
set_option maxRecDepth 100000
set_option maxHeartbeats 8000000
namespace DS
namespace PDK24
open PySem PySem.Spec PySem.SeqAt PyProof.Rows L2 DK24
structure IsRt (q : Fl × Env) : Prop where
  ex : q.1 = .rt (W.b true)
structure LwI (r : Env) : Prop where
  ex : ∃ c2 : C, r = [.no, .sh .tok, c2, .no, .no]
def tailS : SL := match bL with
  | .cons _ s => s
  | _ => .nil
def arT : List (Int × Int) := [(0, 1), (0, 3), (1, 2)]
theorem setT (l : List Int) (h : (l.all fun x => decide (0 ≤ x) && decide (x ≤ 3)) = true) (ha : l.Pairwise (· < ·)) (hl : l.length ≤ 20) : SetOk (4 - 1) l := ⟨fun x hx => by have := List.all_eq_true.mp h x hx; simp at this; omega, ha, by have : cap = 100000 := rfl; omega⟩
theorem quT : QuOk 4 arT [] [] [] [1, 3] [2] := by
  refine ⟨⟨by omega, by omega, ⟨?_, ?_, ?_⟩, ⟨by simp, by simp, by simp⟩⟩, setT _ (by decide) (by decide) (by decide), setT _ (by decide) (by decide) (by decide), setT _ (by decide) (by decide) (by decide), setT _ (by decide) (by decide) (by decide), by decide, by decide, by decide, by decide, by decide⟩
  · have : ∀ p ∈ arT, 0 ≤ p.1 ∧ p.1 < p.2 ∧ p.2 ≤ 4 - 1 := by decide
    exact this
  · decide
  · decide
theorem tail_ok {fs : Fns} (e20 : SpGoal (applyF fs 20)) (h2 : ∀ ws, applyF fs 2 ws = likeF ws) (c2 : C) : Ok 0 (evSL fs gss 200 tailS [.no, .sh .tok, c2, .no, .no]) IsRt := by
  have a1 := e20 _ _ _ _ _ _ _ [] quT ⟨by decide, by decide⟩
  have a2 := e20 _ _ _ _ _ _ _ [1] quT ⟨by decide, by decide⟩
  have a3 := e20 _ _ _ _ _ _ _ [3] quT ⟨by decide, by decide⟩
  have a4 := e20 _ _ _ _ _ _ _ [3, 1] quT ⟨by decide, by decide⟩
  rw [show goalL 4 arT [] [1, 3] [2] [] = [0, 1, 2, 3] by unfold goalL; decide +kernel] at a1
  rw [show goalL 4 arT [] [1, 3] [2] [1] = [0, 2, 3] by unfold goalL; decide +kernel] at a2
  rw [show goalL 4 arT [] [1, 3] [2] [3] = [0, 1, 2] by unfold goalL; decide +kernel] at a3
  rw [show goalL 4 arT [] [1, 3] [2] [3, 1] = [2] by unfold goalL; decide +kernel] at a4
  have hc : cap = 100000 := rfl
  have lk := (h2 _).trans (like_eq (a := .list [.tuple [.int 0, .int 1, .int 2, .int 3], .tuple [.int 0, .int 2, .int 3], .tuple [.int 0, .int 1, .int 2], .tuple [.int 2]]) (by decide +kernel) rfl)
  simp only [tI, arT, prD, csD, quW, quP, drP, List.map_cons, List.map_nil] at a1 a2 a3 a4
  simp only [tailS, bL]
  simp only [v_v, v_non, v_bl, v_int, v_str, v_gl, v_fn, v_tup, v_lst, v_dnew, v_bin, v_neg, v_cmp, v_chain, v_isN, v_notN, v_bop, v_b1, v_b2, v_not, v_ite, v_ix, v_sl, v_call, v_callk, v_callv, v_bi, v_isi, v_comp, itB, escB, l_nil, l_cons, o_nil, o_cons, c_nil', c_cons', i_of', i_rng1', i_rng2', i_enum', i_zip', i_rev', s_nil', s_cons', t_asg, t_par, t_ret, t_retN, t_ite, t_for, t_ex, t_put, t_app, t_ext, t_brk, t_cnt, cmpK, iteK, notK, bopK, tupK, lstK, iteS, asgK, parK, escE, escL, escI, dem, dem1, getN, binW, addW, mulW, int2, b1W, lenW, tupleW, listW, intW, isiW, ixW, cmpW, wBool, wInt, isNone, asgE, asgT, asgTs, Tg.is, TgL.is, wipeE, fresh, isBox, datas, W.data?, opt_some, opt_none, ↓M.bind_ret, M.bind_stuck, M.nox_ret, itOf, itEnum, itZip, itRev, ownAt, ownL, W.i, W.b, List.map_cons, List.map_nil, List.set, List.getElem?_cons_zero, List.getElem?_cons_succ, List.length_cons, List.length_nil, List.replicate, List.append_nil, List.nil_append, List.cons_append, ite_true, ite_false, Bool.false_eq_true, reduceCtorEq, if_true, if_false, seqK_nx, seqK_rt, seqK_bk, seqK_ct, finK_rt, finK_nx, parE, t_whl, t_pop, ↓M.bind_assoc, seqW, List.map_map, List.length_map, Nat.reduceAdd, Nat.reduceLT, Option.map_some, Bool.not_true, Bool.not_false, ordW_int, eqW_int, intB, Bool.and_self, Bool.false_and, Bool.and_false, Bool.true_and, Bool.and_true, Bool.or_false, Bool.false_or, Bool.true_or, Bool.or_true, decide_true, decide_false, a1, a2, a3, a4, lk]
  exact Ok.ret ⟨rfl⟩
theorem key {fs : Fns} (e21 : SlDrawing10 (applyF fs 21)) (e22 : SlQuestion (applyF fs 22)) (e26 : SlRight (applyF fs 26)) (e20 : SpGoal (applyF fs 20)) (h2 : ∀ ws, applyF fs 2 ws = likeF ws) : Ok 3000 (evSL fs gss 200 bL [.no, .sh .tok, .no, .no, .no]) IsRt := by
  have tl := tail_ok e20 h2
  have hu5 : (upto 5).length = 5 := rfl
  rw [show bL = .cons (.forr (.n 2) (.rng1 (.int 5)) (.cons (.ite (.not (.call 26 (.cons (.call 22 (.cons (.v 1) (.cons (.call 21 (.cons (.v 1) (.cons (.int 1) (.cons (.int 8) .nil)))) .nil))) .nil))) (.cons (.ret (.bl false)) .nil) .nil) .nil)) tailS from rfl]
  generalize tailS = TS at *
  simp only [v_v, v_non, v_bl, v_int, v_str, v_gl, v_fn, v_tup, v_lst, v_dnew, v_bin, v_neg, v_cmp, v_chain, v_isN, v_notN, v_bop, v_b1, v_b2, v_not, v_ite, v_ix, v_sl, v_call, v_callk, v_callv, v_bi, v_isi, v_comp, itB, escB, l_nil, l_cons, o_nil, o_cons, c_nil', c_cons', i_of', i_rng1', i_rng2', i_enum', i_zip', i_rev', s_nil', s_cons', t_asg, t_par, t_ret, t_retN, t_ite, t_for, t_ex, t_put, t_app, t_ext, t_brk, t_cnt, cmpK, iteK, notK, bopK, tupK, lstK, iteS, asgK, parK, escE, escL, escI, dem, dem1, getN, binW, addW, mulW, int2, b1W, lenW, tupleW, listW, intW, isiW, ixW, cmpW, wBool, wInt, isNone, asgE, asgT, asgTs, Tg.is, TgL.is, wipeE, fresh, isBox, datas, W.data?, opt_some, opt_none, ↓M.bind_ret, M.bind_stuck, M.nox_ret, itOf, itEnum, itZip, itRev, ownAt, ownL, W.i, W.b, List.map_cons, List.map_nil, List.set, List.getElem?_cons_zero, List.getElem?_cons_succ, List.length_cons, List.length_nil, List.replicate, List.append_nil, List.nil_append, List.cons_append, ite_true, ite_false, Bool.false_eq_true, reduceCtorEq, if_true, if_false, seqK_nx, seqK_rt, seqK_bk, seqK_ct, finK_rt, finK_nx, parE, t_whl, t_pop, ↓M.bind_assoc, seqW, List.map_map, List.length_map, Nat.reduceAdd, Nat.reduceLT, Option.map_some, Bool.not_true, Bool.not_false, ordW_int, eqW_int, intB, Bool.and_self, Bool.false_and, Bool.and_false, Bool.true_and, Bool.and_true, Bool.or_false, Bool.false_or, Bool.true_or, Bool.or_true, decide_true, decide_false, itRng_up (b := 5) (by omega) (by omega)]
  refine Ok.for (b1 := 530) (b2 := 0) (W.d ∘ PyData.int) (fun _ => LwI) ⟨_, rfl⟩ (fun i y r hi ⟨⟨c2, he⟩⟩ => ?_) (by rw [hu5]; omega) fun r ⟨⟨c2, he⟩⟩ => ?_
  · subst he
    refine ⟨[.no, .sh .tok, .sh (.d (.int y)), .no, .no], rfl, ?_⟩
    generalize hPP : (fun q : Fl × Env => q.1 = .nx ∧ LwI q.2) = PP
    simp only [v_v, v_non, v_bl, v_int, v_str, v_gl, v_fn, v_tup, v_lst, v_dnew, v_bin, v_neg, v_cmp, v_chain, v_isN, v_notN, v_bop, v_b1, v_b2, v_not, v_ite, v_ix, v_sl, v_call, v_callk, v_callv, v_bi, v_isi, v_comp, itB, escB, l_nil, l_cons, o_nil, o_cons, c_nil', c_cons', i_of', i_rng1', i_rng2', i_enum', i_zip', i_rev', s_nil', s_cons', t_asg, t_par, t_ret, t_retN, t_ite, t_for, t_ex, t_put, t_app, t_ext, t_brk, t_cnt, cmpK, iteK, notK, bopK, tupK, lstK, iteS, asgK, parK, escE, escL, escI, dem, dem1, getN, binW, addW, mulW, int2, b1W, lenW, tupleW, listW, intW, isiW, ixW, cmpW, wBool, wInt, isNone, asgE, asgT, asgTs, Tg.is, TgL.is, wipeE, fresh, isBox, datas, W.data?, opt_some, opt_none, ↓M.bind_ret, M.bind_stuck, M.nox_ret, itOf, itEnum, itZip, itRev, ownAt, ownL, W.i, W.b, List.map_cons, List.map_nil, List.set, List.getElem?_cons_zero, List.getElem?_cons_succ, List.length_cons, List.length_nil, List.replicate, List.append_nil, List.nil_append, List.cons_append, ite_true, ite_false, Bool.false_eq_true, reduceCtorEq, if_true, if_false, seqK_nx, seqK_rt, seqK_bk, seqK_ct, finK_rt, finK_nx, parE, t_whl, t_pop, ↓M.bind_assoc, seqW, List.map_map, List.length_map, Nat.reduceAdd, Nat.reduceLT, Option.map_some, Bool.not_true, Bool.not_false, ordW_int, eqW_int, intB, Bool.and_self, Bool.false_and, Bool.and_false, Bool.true_and, Bool.and_true, Bool.or_false, Bool.false_or, Bool.true_or, Bool.or_true, decide_true, decide_false]
    refine Ok.step (b1 := 500) (b2 := 30) (e21.ok 1 8 (by omega) (by omega) (by omega)) (by omega) fun w ⟨⟨n, ar, cs, hw, d, _, _⟩⟩ => ?_
    subst hw
    refine Ok.step (b1 := 30) (b2 := 0) (e22.ok n ar cs d) (by omega) fun w ⟨⟨tr, pu, se, as, hw, q⟩⟩ => ?_
    subst hw
    refine Ok.step (b1 := 0) (b2 := 0) (e26.ok n ar cs tr pu se as q) (by omega) fun w hw => ?_
    subst hw
    refine Ok.of (a := (Fl.nx, [.no, .sh .tok, .sh (.d (.int y)), .no, .no])) (by simp [v_v, v_non, v_bl, v_int, v_str, v_gl, v_fn, v_tup, v_lst, v_dnew, v_bin, v_neg, v_cmp, v_chain, v_isN, v_notN, v_bop, v_b1, v_b2, v_not, v_ite, v_ix, v_sl, v_call, v_callk, v_callv, v_bi, v_isi, v_comp, itB, escB, l_nil, l_cons, o_nil, o_cons, c_nil', c_cons', i_of', i_rng1', i_rng2', i_enum', i_zip', i_rev', s_nil', s_cons', t_asg, t_par, t_ret, t_retN, t_ite, t_for, t_ex, t_put, t_app, t_ext, t_brk, t_cnt, cmpK, iteK, notK, bopK, tupK, lstK, iteS, asgK, parK, escE, escL, escI, dem, dem1, getN, binW, addW, mulW, int2, b1W, lenW, tupleW, listW, intW, isiW, ixW, cmpW, wBool, wInt, isNone, asgE, asgT, asgTs, Tg.is, TgL.is, wipeE, fresh, isBox, datas, W.data?, opt_some, opt_none, ↓M.bind_ret, M.bind_stuck, M.nox_ret, itOf, itEnum, itZip, itRev, ownAt, ownL, W.i, W.b, List.map_cons, List.map_nil, List.set, List.getElem?_cons_zero, List.getElem?_cons_succ, List.length_cons, List.length_nil, List.replicate, List.append_nil, List.nil_append, List.cons_append, ite_true, ite_false, Bool.false_eq_true, reduceCtorEq, if_true, if_false, seqK_nx, seqK_rt, seqK_bk, seqK_ct, finK_rt, finK_nx, parE, t_whl, t_pop, ↓M.bind_assoc, seqW, List.map_map, List.length_map, Nat.reduceAdd, Nat.reduceLT, Option.map_some, Bool.not_true, Bool.not_false, ordW_int, eqW_int, intB, Bool.and_self, Bool.false_and, Bool.and_false, Bool.true_and, Bool.and_true, Bool.or_false, Bool.false_or, Bool.true_or, Bool.or_true, decide_true, decide_false]) (by rw [← hPP]; exact ⟨rfl, ⟨_, rfl⟩⟩)
  · subst he
    exact tl c2
theorem law_true : (evSL fs27 gss 200 bL ([.no, .sh .tok] ++ List.replicate (5 - 2) .no)).wp 0 (fun q _ => q.1 = .rt (W.b true)) (fun _ _ => False) := by
  have e21 : SlDrawing10 (applyF fs27 21) := by rw [show applyF fs27 21 = F21 from rfl]; exact f__law_drawing
  have e22 : SlQuestion (applyF fs27 22) := by rw [show applyF fs27 22 = F22 from rfl]; exact f__law_question
  have e26 : SlRight (applyF fs27 26) := by rw [show applyF fs27 26 = F26 from rfl]; exact right_ok
  have e20 : SpGoal (applyF fs27 20) := by rw [show applyF fs27 20 = F20 from rfl]; exact f_goal
  exact M.wp_mono (fun q n h => h.2.ex) (fun _ _ z => z) (key (fs := fs27) e21 e22 e26 e20 (congrFun (show applyF fs27 2 = F2 from rfl)) 0 (by omega))
end PDK24
end DS

set_option Elab.async false
set_option linter.all false
open PySem PySem.W PyProof.Rows
set_option maxRecDepth 100000 in
set_option maxHeartbeats 0 in
theorem PySem.Challenge.cw_deedseen_k24_whole_things_and_goals_holds : PySem.Challenge.rw_deedseen_k24_whole_things_and_goals.Holds := by
  w_on; o_law; k_head; (case hw => w_witness2)
  k_fill
  refine DS.row_of (l := PySem.Challenge.rw_deedseen_k24_whole_things_and_goals) (n := 63) (k := 48) (x := "script") (sp := fun w => DS.spLaw _ DK24.fs27 DK24.gss 200 5 DK24.bL) rfl (by decide) rfl ⟨rfl, by decide, by decide⟩ (fun w h Y => PySem.W.kIn_of Y) ?F
    (fun _ _ a ns hl hS => ⟨a, ns, rfl, hS, Nat.le_trans hl (by decide), fun _ => rfl, DS.PDK24.law_true⟩)
  case F =>
    intro w mg fa h KX G hmg
    refine' DK24.all_mk KX G hmg ?qda0 ?qda1 ?qda2 ?qda3 ?qda4 ?qda5 ?qda6 ?qda7 ?qda8 ?qda9 ?qda10 ?qda11 ?qda12 ?qda13 ?qda14 ?qda15 ?qda16 ?qda17 ?qda18 ?qda19 ?qda20 ?qda21 ?qda22 ?qda23 ?qda24 ?qda25 ?qda26 ?qdaB ?qdaL ?qdg0 ?qdg1 ?qdz
    (case qda0 => exact ⟨⟨_, _, _, _, _, _, _, _, _, by k_is, by k_is, by k_is, by k_is⟩⟩); (case qda1 => exact ⟨⟨_, _, _, _, _, _, _, _, _, by k_is, by k_is, by k_is, by k_is⟩⟩); (case qda2 => exact ⟨⟨_, _, _, _, _, _, _, _, _, by k_is, by k_is, by k_is, by k_is⟩⟩); (case qda3 => exact ⟨⟨_, _, _, _, _, _, _, _, _, by k_is, by k_is, by k_is, by k_is⟩⟩); (case qda4 => exact ⟨⟨_, _, _, _, _, _, _, _, _, by k_is, by k_is, by k_is, by k_is⟩⟩); (case qda5 => exact ⟨⟨_, _, _, _, _, _, _, _, _, by k_is, by k_is, by k_is, by k_is⟩⟩); (case qda6 => exact ⟨⟨_, _, _, _, _, _, _, _, _, by k_is, by k_is, by k_is, by k_is⟩⟩); (case qda7 => exact ⟨⟨_, _, _, _, _, _, _, _, _, by k_is, by k_is, by k_is, by k_is⟩⟩); (case qda8 => exact ⟨⟨_, _, _, _, _, _, _, _, _, by k_is, by k_is, by k_is, by k_is⟩⟩); (case qda9 => exact ⟨⟨_, _, _, _, _, _, _, _, _, by k_is, by k_is, by k_is, by k_is⟩⟩); (case qda10 => exact ⟨⟨_, _, _, _, _, _, _, _, _, by k_is, by k_is, by k_is, by k_is⟩⟩); (case qda11 => exact ⟨⟨_, _, _, _, _, _, _, _, _, by k_is, by k_is, by k_is, by k_is⟩⟩); (case qda12 => exact ⟨⟨_, _, _, _, _, _, _, _, _, by k_is, by k_is, by k_is, by k_is⟩⟩); (case qda13 => exact ⟨⟨_, _, _, _, _, _, _, _, _, by k_is, by k_is, by k_is, by k_is⟩⟩); (case qda14 => exact ⟨⟨_, _, _, _, _, _, _, _, _, by k_is, by k_is, by k_is, by k_is⟩⟩); (case qda15 => exact ⟨⟨_, _, _, _, _, _, _, _, _, by k_is, by k_is, by k_is, by k_is⟩⟩); (case qda16 => exact ⟨⟨_, _, _, _, _, _, _, _, _, by k_is, by k_is, by k_is, by k_is⟩⟩); (case qda17 => exact ⟨⟨_, _, _, _, _, _, _, _, _, by k_is, by k_is, by k_is, by k_is⟩⟩); (case qda18 => exact ⟨⟨_, _, _, _, _, _, _, _, _, by k_is, by k_is, by k_is, by k_is⟩⟩); (case qda19 => exact ⟨⟨_, _, _, _, _, _, _, _, _, by k_is, by k_is, by k_is, by k_is⟩⟩); (case qda20 => exact ⟨⟨_, _, _, _, _, _, _, _, _, by k_is, by k_is, by k_is, by k_is⟩⟩); (case qda21 => exact ⟨⟨_, _, _, _, _, _, _, _, _, by k_is, by k_is, by k_is, by k_is⟩⟩); (case qda22 => exact ⟨⟨_, _, _, _, _, _, _, _, _, by k_is, by k_is, by k_is, by k_is⟩⟩); (case qda23 => exact ⟨⟨_, _, _, _, _, _, _, _, _, by k_is, by k_is, by k_is, by k_is⟩⟩); (case qda24 => exact ⟨⟨_, _, _, _, _, _, _, _, _, by k_is, by k_is, by k_is, by k_is⟩⟩); (case qda25 => exact ⟨⟨_, _, _, _, _, _, _, _, _, by k_is, by k_is, by k_is, by k_is⟩⟩); (case qda26 => exact ⟨⟨_, _, _, _, _, _, _, _, _, by k_is, by k_is, by k_is, by k_is⟩⟩); (case qdaB => exact ⟨⟨_, _, _, _, _, _, _, _, _, by k_is, by k_is, by k_is, by k_is⟩⟩); (case qdaL => exact ⟨⟨_, _, _, _, _, _, _, _, _, by k_is, by k_is, by k_is, by k_is⟩⟩); (case qdg0 => k_is); (case qdg1 => k_is)
    case qdz =>
      intro x hx
      simp only [DS.bnames, List.mem_cons, List.not_mem_nil, or_false] at hx
      rcases hx with rfl | rfl | rfl | rfl | rfl | rfl | rfl | rfl | rfl | rfl | rfl | rfl | rfl | rfl | rfl | rfl | rfl <;> k_is

