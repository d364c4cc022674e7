import PyProof.Rows.All
import Wide.All
import OpenK.AllK
import Wide.FinOn
import HandS.ForMost
import HandS.Deep
import HandS.ForExc
import HandS.Wide
import HandS.IsInst
import HandS.TupAny
import HandS.TupLe
import HandS.Conv
import HandS.SortInts
import HandS.More
import HandS.Zip
import HandS.Rev
import KE.GoesEnum
import HandS.Iter
import HandS.Style
import HandS.Codes
import HandS.WordsExc
import PyProof.ReprRoads
import PyProof.ReprBulk
import PySem.Challenge.RW_deedseen_k03_whole_goals
set_option Elab.async false
set_option linter.all false
set_option maxRecDepth 100000
/-! DS0: plain values, the small language and what it comes to (own work). -/
namespace DS
open PySem PySem.Spec PyProof.Rows L2

/-- a value without addresses: data; the law's state; a def; a dict -/
inductive W where
  | d (x : PyData)
  | tok
  | fn (i : Nat)
  | dK (kvs : List (Key × W))
  | dT (kvs : List (List Key × W))

abbrev W.i (n : Int) : W := .d (.int n)
abbrev W.b (c : Bool) : W := .d (.bool c)

/-- an error: the number of its class, its attributes -/
structure Exc where
  cls : Nat
  fs : List (Str × PyData)

/-- a run: an answer, an error, no answer told, a draw below n -/
inductive M (α : Type) where
  | ret (a : α)
  | exc (x : Exc)
  | stuck
  | draw (n : Int) (k : Int → M α)

def M.bind {α β : Type} : M α → (α → M β) → M β
  | .ret a, f => f a
  | .exc x, _ => .exc x
  | .stuck, _ => .stuck
  | .draw n k, f => .draw n fun i => (k i).bind f
/-- errors are not told of -/
def M.nox {α : Type} : M α → M α
  | .ret a => .ret a
  | .exc _ => .stuck
  | .stuck => .stuck
  | .draw n k => .draw n fun i => (k i).nox
/-- what is wanted of every run, N draws having been made -/
def M.wp {α : Type} : M α → Nat → (α → Nat → Prop) → (Exc → Nat → Prop) → Prop
  | .ret a, N, Q, _ => Q a N
  | .exc x, N, _, E => E x N
  | .stuck, _, _, _ => False
  | .draw n k, N, Q, E => 0 < n ∧ N < 2 ^ 40 ∧ ∀ i, 0 ≤ i → i < n → (k i).wp (N + 1) Q E

theorem M.wp_bind {α β : Type} {m : M α} {f : α → M β} {Q : β → Nat → Prop} {E : Exc → Nat → Prop} : ∀ {N : Nat}, (m.bind f).wp N Q E ↔ m.wp N (fun a n => (f a).wp n Q E) E := by
  induction m with
  | ret a => exact Iff.rfl
  | exc x => exact Iff.rfl
  | stuck => exact Iff.rfl
  | draw n k ih =>
    intro N
    show (0 < n ∧ _ ∧ _) ↔ (0 < n ∧ _ ∧ _)
    constructor
    · rintro ⟨h, hN, q⟩; exact ⟨h, hN, fun i a b => (ih i).mp (q i a b)⟩
    · rintro ⟨h, hN, q⟩; exact ⟨h, hN, fun i a b => (ih i).mpr (q i a b)⟩
theorem M.wp_mono {α : Type} {m : M α} {Q Q' : α → Nat → Prop} {E E' : Exc → Nat → Prop} (hq : ∀ a n, Q a n → Q' a n) (he : ∀ x n, E x n → E' x n) : ∀ {N : Nat}, m.wp N Q E → m.wp N Q' E' := by
  induction m with
  | ret a => exact fun h => hq a _ h
  | exc x => exact fun h => he x _ h
  | stuck => exact fun h => h
  | draw n k ih => exact fun h => ⟨h.1, h.2.1, fun i a b => ih i (h.2.2 i a b)⟩
theorem M.wp_nox {α : Type} {m : M α} {Q : α → Nat → Prop} {E : Exc → Nat → Prop} : ∀ {N : Nat}, m.nox.wp N Q E → m.wp N Q (fun _ _ => False) := by
  induction m with
  | ret a => exact fun h => h
  | exc x => exact fun h => h.elim
  | stuck => exact fun h => h.elim
  | draw n k ih => exact fun h => ⟨h.1, h.2.1, fun i a b => ih i (h.2.2 i a b)⟩
@[simp] theorem M.bind_ret {α β : Type} (a : α) (f : α → M β) : (M.ret a).bind f = f a := rfl
@[simp] theorem M.bind_stuck {α β : Type} (f : α → M β) : (M.stuck : M α).bind f = .stuck := rfl
@[simp] theorem M.bind_exc {α β : Type} (x : Exc) (f : α → M β) : (M.exc x : M α).bind f = .exc x := rfl
@[simp] theorem M.nox_ret {α : Type} (a : α) : (M.ret a).nox = .ret a := rfl
theorem M.bind_assoc {α β γ : Type} (m : M α) (f : α → M β) (g : β → M γ) : (m.bind f).bind g = m.bind fun a => (f a).bind g := by
  induction m with
  | ret a => rfl
  | exc x => rfl
  | stuck => rfl
  | draw n k ih => show M.draw n _ = M.draw n _; congr 1; funext i; exact ih i

/-! ### the small language -/
mutual
/-- a target -/
inductive Tg where
  | n (i : Nat)
  | t (ts : TgL)
inductive TgL where
  | nil
  | cons (g : Tg) (gs : TgL)
end

inductive Bop | add | sub | mul | fdiv | mod | pow | shl
  deriving DecidableEq
inductive Cop | eq | ne | lt | le | gt | ge | isin | notin
  deriving DecidableEq
inductive Ty | int | bool | str | tuple | list
  deriving DecidableEq
/-- built-ins of one argument -/
inductive B1 | len | tuple | list | sorted | sum | int | listRange
  deriving DecidableEq

mutual
inductive E where
  | v (i : Nat)
  | non
  | bl (b : Bool)
  | int (i : Int)
  | str (s : Str)
  | gl (j : Nat)
  | fn (f : Nat)
  | tup (es : EL)
  | lst (es : EL)
  | dnew
  | bin (op : Bop) (a b : E)
  | neg (a : E)
  | cmp (op : Cop) (a b : E)
  | chain (p q : Cop) (a b c : E)
  | isN (a : E)
  | notN (a : E)
  | bop (conj : Bool) (es : EL)
  | not (a : E)
  | ite (c a b : E)
  | ix (a i : E)
  | sl (a : E) (lo hi : EL)
  | call (f : Nat) (es : EL)
  | callk (f np : Nat) (ks : List Str) (perm : List Nat) (es : EL)
  | callv (i : Nat) (es : EL)
  | b1 (b : B1) (a : E)
  | isi (a : E) (t : Ty)
  | comp (tg : Tg) (it : It) (cs : EL) (elt : E)
inductive EL where
  | nil
  | cons (e : E) (es : EL)
inductive It where
  | of (a : E)
  | rng1 (a : E)
  | rng2 (a b : E)
  | enum (a : E)
  | zip (a b : E)
  | rev (a : E)
end
def EL.len : EL → Nat
  | .nil => 0
  | .cons _ es => es.len + 1

mutual
inductive S where
  | asg (tg : Tg) (e : E)
  | par (is : List Nat) (es : EL)
  | ret (e : E)
  | retN
  | ite (c : E) (a b : SL)
  | forr (tg : Tg) (it : It) (body : SL)
  | whl (c : E) (body : SL)
  | app (i : Nat) (e : E)
  | ext (i : Nat) (e : E)
  | popTo (j i : Nat)
  | put (i : Nat) (k e : E)
  | ex (e : E)
  | brk
  | cnt
  | pas
  | rse
inductive SL where
  | nil
  | cons (s : S) (ss : SL)
end

/-- a name's place: nothing, a value, a list or dict of this def's own that nothing else holds -/
inductive C where
  | no
  | sh (w : W)
  | ow (w : W)
abbrev Env := List C

/-- no longer own -/
def dem1 (r : Env) (i : Nat) : Env := match r[i]? with
  | some (.ow w) => r.set i (.sh w)
  | _ => r
def dem : Env → List Nat → Env
  | r, [] => r
  | r, i :: is => dem (dem1 r i) is

/-! ### values -/
def W.data? : W → Option PyData
  | .d x => some x
  | _ => none
def datas : List W → Option (List PyData)
  | [] => some []
  | w :: ws => match w, datas ws with
    | .d x, some xs => some (x :: xs)
    | _, _ => none
/-- the longest list that is made -/
def cap : Nat := 100000

def opt {α : Type} : Option α → M α
  | some a => .ret a
  | none => .stuck
theorem opt_wp {α : Type} {o : Option α} {N : Nat} {Q : α → Nat → Prop} {E : Exc → Nat → Prop} (h : (opt o).wp N Q E) : ∃ a, o = some a ∧ Q a N := by
  cases o with
  | none => exact h.elim
  | some a => exact ⟨a, rfl, h⟩
@[simp] theorem opt_some {α : Type} (a : α) : opt (some a) = .ret a := rfl
@[simp] theorem opt_none {α : Type} : opt (none : Option α) = .stuck := rfl
def wBool : W → Option Bool
  | .d (.bool c) => some c
  | _ => none
def wInt : W → Option Int
  | .d (.int i) => some i
  | _ => none

def intDiv (i j : Int) : Option W := if 0 < j ∧ j.natAbs.log2 < 9000 then some (.i (i / j)) else none
def intMod (i j : Int) : Option W := if 0 < j then some (.i (i % j)) else none
def intMul (i j : Int) : Option W := if i.natAbs.log2 + j.natAbs.log2 < 1000000 then some (.i (i * j)) else none
def intPow (i j : Int) : Option W := if 0 ≤ j ∧ j ≤ 1000000 ∧ i.natAbs < 2 ^ 64 then some (.i (i ^ j.toNat)) else none
def intShl (i j : Int) : Option W := if 0 ≤ j ∧ j ≤ 1000000 ∧ i.natAbs < 2 ^ 64 then some (.i (i * 2 ^ j.toNat)) else none

def addW : W → W → Option W
  | .d (.int i), .d (.int j) => some (.i (i + j))
  | .d (.list xs), .d (.list ys) => if xs.length + ys.length ≤ cap then some (.d (.list (xs ++ ys))) else none
  | .d (.tuple xs), .d (.tuple ys) => if xs.length + ys.length ≤ cap then some (.d (.tuple (xs ++ ys))) else none
  | _, _ => none
/-- an operation of two ints -/
def int2 (f : Int → Int → Option W) : W → W → Option W
  | .d (.int i), .d (.int j) => f i j
  | _, _ => none
def binW : Bop → W → W → Option W
  | .add => addW
  | .sub => int2 fun i j => some (.i (i - j))
  | .mul => int2 intMul
  | .fdiv => int2 intDiv
  | .mod => int2 intMod
  | .pow => int2 intPow
  | .shl => int2 intShl

/-- the key that a value is, in a dict of ints and texts -/
def keyW : W → Option Key
  | .d (.int i) => some (.inl i)
  | .d (.str s) => some (.inr s)
  | _ => none
def keyD : PyData → Option Key
  | .int i => some (.inl i)
  | .str s => some (.inr s)
  | _ => none
def keysD : List PyData → Option (List Key)
  | [] => some []
  | x :: xs => match keyD x, keysD xs with
    | some k, some ks => some (k :: ks)
    | _, _ => none
def keyT : W → Option (List Key)
  | .d (.tuple xs) => keysD xs
  | _ => none
def findV {κ : Type} [DecidableEq κ] (kvs : List (κ × W)) (k : κ) : Option W := (kvs.find? fun p => decide (p.1 = k)).map (·.2)

def isNone : W → Bool
  | .d .none => true
  | _ => false
def eqW (a b : W) : Option Bool := match a, b with
  | .d x, .d y => if SeqAt.shaped x = true ∧ SeqAt.shaped y = true then some (PyData.eqv x y) else none
  | _, _ => none
/-- the ints of data -/
def intsD : List PyData → Option (List Int)
  | [] => some []
  | .int i :: xs => match intsD xs with
    | some is => some (i :: is)
    | none => none
  | _ :: _ => none
/-- the order of two lengths -/
def szB : Cop → Nat → Nat → Bool
  | .lt, a, b => decide (a < b)
  | .le, a, b => decide (a ≤ b)
  | .gt, a, b => decide (b < a)
  | .ge, a, b => decide (b ≤ a)
  | _, _, _ => false
def intB : Cop → Int → Int → Bool
  | .lt, a, b => decide (a < b)
  | .le, a, b => decide (a ≤ b)
  | .gt, a, b => decide (b < a)
  | .ge, a, b => decide (b ≤ a)
  | _, _, _ => false
mutual
/-- the order of data: ints, tuples of such -/
def ordD (op : Cop) : PyData → PyData → Option Bool
  | .int i, .int j => some (intB op i j)
  | .tuple xs, .tuple ys => ordDs op xs ys
  | _, _ => none
def ordDs (op : Cop) : List PyData → List PyData → Option Bool
  | [], ys => some (szB op 0 ys.length)
  | _ :: xs, [] => some (szB op (xs.length + 1) 0)
  | x :: xs, y :: ys => match ordDs op xs ys with
    | none => none
    | some t => if PyData.eqv x y = true then some t else ordD op x y
end
def ordW (op : Cop) (a b : W) : Option Bool := match a, b with
  | .d x, .d y => if SeqAt.shaped x = true ∧ SeqAt.shaped y = true then ordD op x y else none
  | _, _ => none
def inW (a b : W) : Option Bool := match b with
  | .d (.list ds) => match a with
    | .d x => if SeqAt.shaped x = true ∧ SeqAt.shaped (.list ds) = true then some (ds.any fun z => PyData.eqv z x) else none
    | _ => none
  | .d (.tuple ds) => match a with
    | .d x => if SeqAt.shaped x = true ∧ SeqAt.shaped (.tuple ds) = true then some (ds.any fun z => PyData.eqv z x) else none
    | _ => none
  | .dK kvs => match keyW a with
    | some k => some (findV kvs k).isSome
    | none => none
  | _ => none
def cmpW : Cop → W → W → Option Bool
  | .eq, a, b => eqW a b
  | .ne, a, b => (eqW a b).map (! ·)
  | .lt, a, b => ordW .lt a b
  | .le, a, b => ordW .le a b
  | .gt, a, b => ordW .gt a b
  | .ge, a, b => ordW .ge a b
  | .isin, a, b => inW a b
  | .notin, a, b => (inW a b).map (! ·)
def ixW (a b : W) : Option W := match a with
  | .d (.list ds) => match b with
    | .d (.int i) => match atI ds i with
      | some x => some (.d x)
      | none => none
    | _ => none
  | .d (.tuple ds) => match b with
    | .d (.int i) => match atI ds i with
      | some x => some (.d x)
      | none => none
    | _ => none
  | .dK kvs => match keyW b with
    | some k => match findV kvs k with
      | some w => some w
      | none => none
    | none => none
  | _ => none
/-- a part's bound -/
def cutD (ds : List PyData) (lo hi : Option Int) : List PyData := (ds.drop (HT.sIx ds.length 0 lo)).take (HT.sIx ds.length ds.length hi - HT.sIx ds.length 0 lo)
def slW (a : W) (lo hi : Option Int) : Option W := match a with
  | .d (.list ds) => some (.d (.list (cutD ds lo hi)))
  | .d (.tuple ds) => some (.d (.tuple (cutD ds lo hi)))
  | _ => none

/-- ints in their order -/
def insI (x : Int) : List Int → List Int
  | [] => [x]
  | y :: ys => if x ≤ y then x :: y :: ys else y :: insI x ys
def sortI : List Int → List Int
  | [] => []
  | x :: xs => insI x (sortI xs)
def keysI : List (Key × W) → Option (List Int)
  | [] => some []
  | (.inl i, _) :: r => match keysI r with
    | some is => some (i :: is)
    | none => none
  | _ :: _ => none
def lenW : W → Option W
  | .d (.list ds) => some (.i ds.length)
  | .d (.tuple ds) => some (.i ds.length)
  | .dK kvs => some (.i kvs.length)
  | _ => none
def tupleW : W → Option W
  | .d (.list ds) => some (.d (.tuple ds))
  | .d (.tuple ds) => some (.d (.tuple ds))
  | _ => none
def listW : W → Option W
  | .d (.list ds) => some (.d (.list ds))
  | .d (.tuple ds) => some (.d (.list ds))
  | _ => none
def sumW : W → Option W
  | .d (.list ds) => match intsD ds with
    | some is => some (.i is.sum)
    | none => none
  | _ => none
def sortedW : W → Option W
  | .d (.list ds) => match intsD ds with
    | some is => some (.d (.list ((sortI is).map .int)))
    | none => none
  | .dK kvs => match keysI kvs with
    | some is => if is.length < 64 then some (.d (.list ((sortI is).map .int))) else none
    | none => none
  | _ => none
def intW : W → Option W
  | .d (.int i) => some (.i i)
  | _ => none
def rangeW : W → Option W
  | .d (.int n) => if 0 ≤ n ∧ n ≤ cap then some (.d (.list ((List.range n.toNat).map fun (k : Nat) => PyData.int (k : Int)))) else none
  | _ => none
def b1W : B1 → W → Option W
  | .len => lenW
  | .tuple => tupleW
  | .list => listW
  | .sum => sumW
  | .sorted => sortedW
  | .int => intW
  | .listRange => rangeW
def isiW : W → Ty → Option Bool
  | .d .none, _ => some false
  | .d (.bool _), t => some (t == .bool || t == .int)
  | .d (.int _), t => some (t == .int)
  | .d (.str _), t => some (t == .str)
  | .d (.tuple _), t => some (t == .tuple)
  | .d (.list _), t => some (t == .list)
  | _, _ => none

/-! ### loops -/
inductive Fl where
  | nx | bk | ct
  | rt (w : W)
/-- a comprehension's turns -/
def compM (step : W → M (Option PyData)) : List W → List PyData → M (List PyData)
  | [], acc => .ret acc
  | w :: ws, acc => (step w).bind fun o => match o with
    | some x => compM step ws (acc ++ [x])
    | none => compM step ws acc
def forM {ρ : Type} (step : W → ρ → M (Fl × ρ)) : List W → ρ → M (Fl × ρ)
  | [], r => .ret (.nx, r)
  | w :: ws, r => (step w r).bind fun q => match q.1 with
    | .nx => forM step ws q.2
    | .ct => forM step ws q.2
    | .bk => .ret (.nx, q.2)
    | .rt v => .ret (.rt v, q.2)
def whileM {ρ : Type} (c : ρ → M Bool) (step : ρ → M (Fl × ρ)) : Nat → ρ → M (Fl × ρ)
  | 0, _ => .stuck
  | k + 1, r => (c r).bind fun b => if b = true then (step r).bind fun q => match q.1 with
      | .nx => whileM c step k q.2
      | .ct => whileM c step k q.2
      | .bk => .ret (.nx, q.2)
      | .rt v => .ret (.rt v, q.2)
    else .ret (.nx, r)

/-! ### targets -/
mutual
def asgT : Tg → W → Env → Option Env
  | .n i, w, r => if i < r.length then some (r.set i (.sh w)) else none
  | .t ts, w, r => match w with
    | .d (.tuple xs) => asgTs ts xs r
    | _ => none
def asgTs : TgL → List PyData → Env → Option Env
  | .nil, xs, r => match xs with
    | [] => some r
    | _ => none
  | .cons g gs, xs, r => match xs with
    | x :: xs => match asgT g (.d x) r with
      | some r1 => asgTs gs xs r1
      | none => none
    | [] => none
end
mutual
def Tg.is : Tg → List Nat
  | .n i => [i]
  | .t ts => ts.is
def TgL.is : TgL → List Nat
  | .nil => []
  | .cons g gs => g.is ++ gs.is
end
/-- names forgotten -/
def wipeE (r : Env) : List Nat → Env
  | [] => r
  | i :: is => (wipeE r is).set i .no

/-! ### what is told of a list that is walked -/
def itOf : W → Option (List W)
  | .d (.list ds) => some (ds.map .d)
  | .d (.tuple ds) => some (ds.map .d)
  | _ => none
def itRng (a b : Int) : Option (List W) := if -(2 ^ 62) ≤ a ∧ a < 2 ^ 62 ∧ -(2 ^ 62) ≤ b ∧ b < 2 ^ 62 then some ((List.range (b - a).toNat).map fun (k : Nat) => W.i (a + (k : Int))) else none
def enumD (ds : List PyData) : List W := ds.zipIdx.map fun p => W.d (.tuple [.int (p.2 : Nat), p.1])
def itEnum : W → Option (List W)
  | .d (.list ds) => some (enumD ds)
  | .d (.tuple ds) => some (enumD ds)
  | _ => none
def itZip : W → W → Option (List W)
  | .d (.list ds), .d (.list es) => some ((ds.zip es).map fun p => W.d (.tuple [p.1, p.2]))
  | .d (.tuple ds), .d (.tuple es) => some ((ds.zip es).map fun p => W.d (.tuple [p.1, p.2]))
  | _, _ => none
def itRev : W → Option (List W)
  | .d (.list ds) => some (ds.reverse.map .d)
  | .d (.tuple ds) => some (ds.reverse.map .d)
  | _ => none

/-! ### expressions -/
abbrev Fns := List (List W → M W)
def getN (r : Env) (bw : Bool) (i : Nat) : M W := match r[i]? with
  | some (.sh w) => .ret w
  | some (.ow w) => if bw = true then .ret w else .stuck
  | _ => .stuck
def applyF (fs : Fns) (f : Nat) (ws : List W) : M W := match fs[f]? with
  | some F => F ws
  | none => .stuck
/-- a def that is held by a name -/
def callW (fs : Fns) (g : W) (k : Nat → M W) : M W := match g with
  | .fn f => if f < fs.length then k f else .stuck
  | _ => .stuck
theorem callW_wp {fs : Fns} {g : W} {k : Nat → M W} {N : Nat} {Q : W → Nat → Prop} {E : Exc → Nat → Prop} (h : (callW fs g k).wp N Q E) : ∃ f, g = .fn f ∧ f < fs.length ∧ (k f).wp N Q E := by
  unfold callW at h
  split at h
  · split at h
    · exact ⟨_, rfl, by assumption, h⟩
    · exact h.elim
  · exact h.elim
def permW (ws : List W) : List Nat → Option (List W)
  | [] => some []
  | i :: is => match ws[i]?, permW ws is with
    | some w, some r => some (w :: r)
    | _, _ => none
mutual
def evE (fs : Fns) (gs : List W) (r : Env) (bw : Bool) : E → M W
  | .v i => getN r bw i
  | .non => .ret (.d .none)
  | .bl b => .ret (.b b)
  | .int i => .ret (.i i)
  | .str s => .ret (.d (.str s))
  | .gl j => match gs[j]? with
    | some w => .ret w
    | none => .stuck
  | .fn f => .ret (.fn f)
  | .tup es => (evL fs gs r es).bind fun ws => match datas ws with
    | some ds => .ret (.d (.tuple ds))
    | none => .stuck
  | .lst es => (evL fs gs r es).bind fun ws => match datas ws with
    | some ds => .ret (.d (.list ds))
    | none => .stuck
  | .dnew => .ret (.dK [])
  | .bin op a b => (evE fs gs r true a).bind fun x => (evE fs gs r true b).bind fun y => opt (binW op x y)
  | .neg a => (evE fs gs r false a).bind fun x => (opt (wInt x)).bind fun i => .ret (.i (-i))
  | .cmp op a b => (evE fs gs r true a).bind fun x => (evE fs gs r true b).bind fun y => (opt (cmpW op x y)).bind fun c => .ret (.b c)
  | .chain p q a b c => (evE fs gs r false a).bind fun x => (evE fs gs r false b).bind fun y => (opt (cmpW p x y)).bind fun k =>
      if k = true then (evE fs gs r false c).bind fun z => (opt (cmpW q y z)).bind fun k2 => .ret (.b k2) else .ret (.b false)
  | .isN a => (evE fs gs r false a).bind fun x => .ret (.b (isNone x))
  | .notN a => (evE fs gs r false a).bind fun x => .ret (.b (!isNone x))
  | .bop conj es => evB fs gs r conj es
  | .not a => (evE fs gs r false a).bind fun x => (opt (wBool x)).bind fun c => .ret (.b (!c))
  | .ite c a b => (evE fs gs r false c).bind fun x => (opt (wBool x)).bind fun k => if k = true then evE fs gs r false a else evE fs gs r false b
  | .ix a i => (evE fs gs r true a).bind fun x => (evE fs gs r false i).bind fun y => opt (ixW x y)
  | .sl a lo hi => (evE fs gs r true a).bind fun x => (evO fs gs r lo).bind fun l => (evO fs gs r hi).bind fun h => opt (slW x l h)
  | .call f es => (evL fs gs r es).bind fun ws => applyF fs f ws
  | .callk f _ _ perm es => (evL fs gs r es).bind fun ws => match permW ws perm with
    | some vs => applyF fs f vs
    | none => .stuck
  | .callv i es => (getN r false i).bind fun g => callW fs g fun f => (evL fs gs r es).bind fun ws => applyF fs f ws
  | .b1 b a => (evE fs gs r true a).bind fun x => opt (b1W b x)
  | .isi a t => (evE fs gs r true a).bind fun x => (opt (isiW x t)).bind fun c => .ret (.b c)
  | .comp tg it cs elt => (evI fs gs r it).bind fun ws => if ws.length ≤ cap then
      (compM (fun w => match asgT tg w (wipeE r tg.is) with
        | some r1 => (evC fs gs r1 cs).bind fun c => if c = true then (evE fs gs r1 false elt).bind fun y => (opt y.data?).bind fun x => .ret (some x) else .ret none
        | none => .stuck) ws []).nox.bind fun ds => .ret (.d (.list ds)) else .stuck
def evL (fs : Fns) (gs : List W) (r : Env) : EL → M (List W)
  | .nil => .ret []
  | .cons e es => (evE fs gs r false e).bind fun w => (evL fs gs r es).bind fun ws => .ret (w :: ws)
/-- and, or -/
def evB (fs : Fns) (gs : List W) (r : Env) (conj : Bool) : EL → M W
  | .nil => .stuck
  | .cons e es => match es with
    | .nil => evE fs gs r false e
    | .cons e2 es2 => (evE fs gs r false e).bind fun x => (opt (wBool x)).bind fun c => if c = conj then evB fs gs r conj (.cons e2 es2) else .ret (.b (!conj))
/-- a bound of a part -/
def evO (fs : Fns) (gs : List W) (r : Env) : EL → M (Option Int)
  | .nil => .ret none
  | .cons e _ => (evE fs gs r false e).bind fun x => (opt (wInt x)).bind fun i => .ret (some i)
/-- the tests of a comprehension -/
def evC (fs : Fns) (gs : List W) (r : Env) : EL → M Bool
  | .nil => .ret true
  | .cons e _ => (evE fs gs r false e).bind fun x => opt (wBool x)
def evI (fs : Fns) (gs : List W) (r : Env) : It → M (List W)
  | .of a => (evE fs gs r false a).bind fun x => opt (itOf x)
  | .rng1 a => (evE fs gs r false a).bind fun x => (opt (wInt x)).bind fun j => opt (itRng 0 j)
  | .rng2 a b => (evE fs gs r false a).bind fun x => (evE fs gs r false b).bind fun y => (opt (wInt x)).bind fun i => (opt (wInt y)).bind fun j => opt (itRng i j)
  | .enum a => (evE fs gs r false a).bind fun x => opt (itEnum x)
  | .zip a b => (evE fs gs r false a).bind fun x => (evE fs gs r false b).bind fun y => opt (itZip x y)
  | .rev a => (evE fs gs r false a).bind fun x => opt (itRev x)
end

/-! ### which names are handed on -/
mutual
def escE (bw : Bool) : E → List Nat
  | .v i => if bw = true then [] else [i]
  | .non | .bl _ | .int _ | .str _ | .gl _ | .fn _ | .dnew => []
  | .tup es | .lst es | .bop _ es | .call _ es | .callk _ _ _ _ es => escL es
  | .callv i es => i :: escL es
  | .bin _ a b | .cmp _ a b => escE true a ++ escE true b
  | .chain _ _ a b c => escE false a ++ escE false b ++ escE false c
  | .neg a | .isN a | .notN a | .not a => escE false a
  | .ite c a b => escE false c ++ escE false a ++ escE false b
  | .ix a i => escE true a ++ escE false i
  | .sl a lo hi => escE true a ++ escL lo ++ escL hi
  | .b1 _ a | .isi a _ => escE true a
  | .comp _ it cs elt => escI it ++ escL cs ++ escE false elt
def escL : EL → List Nat
  | .nil => []
  | .cons e es => escE false e ++ escL es
def escI : It → List Nat
  | .of a | .rng1 a | .enum a | .rev a => escE false a
  | .rng2 a b | .zip a b => escE false a ++ escE false b
end
/-- whether a new list or dict comes of it -/
def fresh : E → Bool
  | .lst _ | .dnew | .comp _ _ _ _ => true
  | .b1 b _ => match b with
    | .list | .sorted | .listRange => true
    | _ => false
  | .bin .add _ _ => true
  | _ => false
def isBox : W → Bool
  | .d (.list _) => true
  | .dK _ => true
  | .dT _ => true
  | _ => false
def asgE (tg : Tg) (e : E) (w : W) (r : Env) : Option Env := match tg with
  | .n i => if i < r.length then some (r.set i (if fresh e && isBox w then .ow w else .sh w)) else none
  | t => asgT t w r
def parE : List Nat → EL → List W → Env → Option Env
  | i :: is, .cons e es, w :: ws, r => match asgE (.n i) e w r with
    | some r1 => parE is es ws r1
    | none => none
  | [], .nil, [], r => some r
  | _, _, _, _ => none

/-! ### stores -/
def appD (ds : List PyData) (x : W) : Option W := match x with
  | .d y => if ds.length < cap then some (.d (.list (ds ++ [y]))) else none
  | _ => none
def extD (ds : List PyData) (x : W) : Option W := match x with
  | .d (.list ys) => if ds.length + ys.length ≤ cap then some (.d (.list (ds ++ ys))) else none
  | _ => none
def putV {κ : Type} [DecidableEq κ] (k : κ) (v : W) (kvs : List (κ × W)) : List (κ × W) :=
  if (kvs.any fun p => decide (p.1 = k)) = true then kvs.map (fun p => if p.1 = k then (p.1, v) else p) else kvs ++ [(k, v)]
def putW (w k x : W) : Option W := match w with
  | .d (.list ds) => match k, x with
    | .d (.int i), .d y => match ixN ds.length i with
      | some j => some (.d (.list (ds.set j y)))
      | none => none
    | _, _ => none
  | .dK kvs => match keyW k with
    | some q => if kvs.length < cap then some (.dK (putV q x kvs)) else none
    | none => none
  | _ => none

/-! ### statements -/
def ownAt (r : Env) (i : Nat) : Option W := match r[i]? with
  | some (.ow w) => some w
  | _ => none
def ownL (r : Env) (i : Nat) : Option (List PyData) := match r[i]? with
  | some (.ow (.d (.list ds))) => some ds
  | _ => none
mutual
def evS (fs : Fns) (gs : List W) (fu : Nat) : S → Env → M (Fl × Env)
  | .asg tg e, r => (evE fs gs (dem r (escE false e)) false e).bind fun w => (opt (asgE tg e w (dem r (escE false e)))).bind fun r1 => .ret (.nx, r1)
  | .par is es, r => (evL fs gs (dem r (escL es)) es).bind fun ws => (opt (parE is es ws (dem r (escL es)))).bind fun r1 => .ret (.nx, r1)
  | .ret e, r => (evE fs gs (dem r (escE false e)) false e).bind fun w => .ret (.rt w, dem r (escE false e))
  | .retN, r => .ret (.rt (.d .none), r)
  | .ite c a b, r => (evE fs gs (dem r (escE false c)) false c).bind fun x => (opt (wBool x)).bind fun k => if k = true then evSL fs gs fu a (dem r (escE false c)) else evSL fs gs fu b (dem r (escE false c))
  | .forr tg it body, r => (evI fs gs (dem r (escI it)) it).bind fun ws =>
      forM (fun w r1 => (opt (asgT tg w r1)).bind fun r2 => evSL fs gs fu body r2) ws (dem r (escI it))
  | .whl c body, r => whileM (fun r1 => if (escE false c).all (fun i => (ownAt r1 i).isNone) then (evE fs gs r1 false c).bind (fun x => opt (wBool x)) else .stuck) (fun r1 => evSL fs gs fu body r1) fu r
  | .app i e, r => match ownL (dem r (escE false e)) i with
    | some ds => (evE fs gs (dem r (escE false e)) false e).bind fun x => (opt (appD ds x)).bind fun w2 => .ret (.nx, (dem r (escE false e)).set i (.ow w2))
    | none => .stuck
  | .ext i e, r => match ownL (dem r (escE false e)) i with
    | some ds => (evE fs gs (dem r (escE false e)) false e).bind fun x => (opt (extD ds x)).bind fun w2 => .ret (.nx, (dem r (escE false e)).set i (.ow w2))
    | none => .stuck
  | .popTo j i, r => match ownL r i with
    | some ds => match ds.getLast? with
      | some x => if j < r.length then .ret (.nx, (r.set i (.ow (.d (.list ds.dropLast)))).set j (.sh (.d x))) else .stuck
      | none => .stuck
    | none => .stuck
  | .put i k e, r => (evE fs gs (dem r (escE false k ++ escE false e)) false e).bind fun x => match ownAt (dem r (escE false k ++ escE false e)) i with
    | some w => (evE fs gs (dem r (escE false k ++ escE false e)) false k).bind fun y => (opt (putW w y x)).bind fun w2 => .ret (.nx, (dem r (escE false k ++ escE false e)).set i (.ow w2))
    | none => .stuck
  | .ex e, r => (evE fs gs (dem r (escE false e)) false e).bind fun _ => .ret (.nx, dem r (escE false e))
  | .brk, r => .ret (.bk, r)
  | .cnt, r => .ret (.ct, r)
  | .pas, r => .ret (.nx, r)
  | .rse, _ => .stuck
def evSL (fs : Fns) (gs : List W) (fu : Nat) : SL → Env → M (Fl × Env)
  | .nil, r => .ret (.nx, r)
  | .cons s ss, r => (evS fs gs fu s r).bind fun q => match q.1 with
    | .nx => evSL fs gs fu ss q.2
    | f => .ret (f, q.2)
end
def evD (fs : Fns) (gs : List W) (fu n np : Nat) (body : SL) (ws : List W) : M W :=
  if ws.length = np then (evSL fs gs fu body (ws.map .sh ++ List.replicate (n - np) .no)).bind fun q => match q.1 with
    | .rt w => .ret w
    | .nx => .ret (.d .none)
    | _ => .stuck
  else .stuck
end DS

set_option Elab.async false
set_option linter.all false
set_option maxRecDepth 100000
set_option maxHeartbeats 4000000
/-! DS1: how a plain value lies in the heap; what an expression's reading is. -/
namespace DS
open PySem PySem.Spec PyProof.Rows L2

abbrev Frag := PySem.W.Frag

/-! ### heaps -/
def hide (O : List Addr) (H : Hp) : Hp := fun b => if b ∈ O then none else H b
theorem hide_in {O : List Addr} {H : Hp} {b : Addr} (h : b ∈ O) : hide O H b = none := if_pos h
theorem hide_out {O : List Addr} {H : Hp} {b : Addr} (h : b ∉ O) : hide O H b = H b := if_neg h
theorem hide_le {O : List Addr} {H : Hp} : Same (hide O H) H := fun b o e => by
  unfold hide at e
  split at e
  · cases e
  · exact e
theorem hide_some {O : List Addr} {H : Hp} {b : Addr} {o : HO} (e : hide O H b = some o) : b ∉ O ∧ H b = some o := by
  unfold hide at e
  split at e
  · cases e
  · exact ⟨by assumption, e⟩
theorem hide_sub {O O' : List Addr} {H : Hp} (h : ∀ b ∈ O', b ∈ O) : Same (hide O H) (hide O' H) := fun b o e => by
  obtain ⟨h1, h2⟩ := hide_some e
  rw [hide_out fun q => h1 (h b q)]
  exact h2
theorem hide_same {O : List Addr} {H H' : Hp} (h : Same H H') : Same (hide O H) (hide O H') := fun b o e => by
  obtain ⟨h1, h2⟩ := hide_some e
  rw [hide_out h1]
  exact h b o h2
/-- an object of O is changed -/
theorem hide_upd {O : List Addr} {H : Hp} {a : Addr} {o : HO} (h : a ∈ O) : hide O (upd H a o) = hide O H := by
  funext b
  unfold hide
  split
  · rfl
  · exact upd_ne fun e => by subst e; exact absurd h (by assumption)
/-- a new object -/
theorem same_new {H : Hp} {a : Addr} {o : HO} (h : H a = none) : Same H (upd H a o) := fun b u e => by
  rw [upd_ne (ne_of_none e h)]
  exact e
/-- a new object that is hidden -/
theorem hide_new {O : List Addr} {H : Hp} {a : Addr} {o : HO} (h : H a = none) : Same (hide O H) (hide (a :: O) (upd H a o)) := fun b u e => by
  obtain ⟨h1, h2⟩ := hide_some e
  have n : b ≠ a := ne_of_none h2 h
  rw [hide_out (by simp [n, h1]), upd_ne n]
  exact h2

/-! ### data in a heap -/
mutual
inductive RD (K : Frag) (G : Hp) : V → PyData → Prop
  | non : RD K G .non .none
  | bl (b : Bool) : RD K G (.bl b) (.bool b)
  | int (i : Int) : RD K G (.int i) (.int i)
  | str (x : Str) : RD K G (.str x) (.str x)
  | lst {a : Addr} {xs : List V} {ds : List PyData} : G a = some (.lst xs) → RDs K G xs ds → RD K G (.ref a) (.list ds)
  | tup {a : Addr} {xs : List V} {ds : List PyData} : SqT K G a xs → RDs K G xs ds → RD K G (.ref a) (.tuple ds)
inductive RDs (K : Frag) (G : Hp) : List V → List PyData → Prop
  | nil : RDs K G [] []
  | cons {v : V} {vs : List V} {d : PyData} {ds : List PyData} : RD K G v d → RDs K G vs ds → RDs K G (v :: vs) (d :: ds)
end
theorem sqT_same {K : Frag} {H H' : Hp} {a : Addr} {xs : List V} (e : Same H H') (h : SqT K H a xs) : SqT K H' a xs := by
  rcases h with (h | ⟨o, h⟩) | h
  · exact .inl (.inl (e _ _ h))
  · exact .inl (.inr ⟨o, e _ _ h⟩)
  · exact .inr h
mutual
theorem RD.mono {K : Frag} {G G' : Hp} (e : Same G G') : ∀ (d : PyData) (v : V), RD K G v d → RD K G' v d
  | .none, _, h => by cases h; exact .non
  | .bool b, _, h => by cases h; exact .bl b
  | .int b, _, h => by cases h; exact .int b
  | .str b, _, h => by cases h; exact .str b
  | .list ds, _, h => by
    cases h with
    | lst h1 h2 => exact .lst (e _ _ h1) (RDs.mono e ds _ h2)
  | .tuple ds, _, h => by
    cases h with
    | tup h1 h2 => exact .tup (sqT_same e h1) (RDs.mono e ds _ h2)
  | .dict _, _, h => by cases h
theorem RDs.mono {K : Frag} {G G' : Hp} (e : Same G G') : ∀ (ds : List PyData) (vs : List V), RDs K G vs ds → RDs K G' vs ds
  | [], _, h => by cases h; exact .nil
  | d :: ds, _, h => by
    cases h with
    | cons h1 h2 => exact .cons (RD.mono e d _ h1) (RDs.mono e ds _ h2)
end
mutual
theorem RD.dp {K : Frag} {G : Hp} : ∀ (d : PyData) (v : V), RD K G v d → Dp K G v d
  | .none, _, h => by cases h; exact .non
  | .bool b, _, h => by cases h; exact .bl b
  | .int b, _, h => by cases h; exact .int b
  | .str b, _, h => by cases h; exact .str b
  | .list ds, _, h => by
    cases h with
    | lst h1 h2 => exact .lst (.inl (.inl h1)) (RDs.dp ds _ h2)
  | .tuple ds, _, h => by
    cases h with
    | tup h1 h2 => exact .tup h1 (RDs.dp ds _ h2)
  | .dict _, _, h => by cases h
theorem RDs.dp {K : Frag} {G : Hp} : ∀ (ds : List PyData) (vs : List V), RDs K G vs ds → DpAll K G vs ds
  | [], _, h => by cases h; exact .nil
  | d :: ds, _, h => by
    cases h with
    | cons h1 h2 => exact .cons (RD.dp d _ h1) (RDs.dp ds _ h2)
end
theorem RDs.len {K : Frag} {G : Hp} : ∀ {vs : List V} {ds : List PyData}, RDs K G vs ds → vs.length = ds.length
  | _, _, .nil => rfl
  | _, _, .cons _ t => congrArg (· + 1) t.len
theorem RDs.append {K : Frag} {G : Hp} : ∀ {vs vs' : List V} {ds ds' : List PyData}, RDs K G vs ds → RDs K G vs' ds' → RDs K G (vs ++ vs') (ds ++ ds')
  | _, _, _, _, .nil, q => q
  | _, _, _, _, .cons a t, q => .cons a (t.append q)
theorem RDs.get {K : Frag} {G : Hp} : ∀ {vs : List V} {ds : List PyData} {i : Nat} {d : PyData}, RDs K G vs ds → ds[i]? = some d → ∃ v, vs[i]? = some v ∧ RD K G v d
  | _, _, _, _, .nil, e => by simp at e
  | _, _, 0, _, .cons a _, e => by simp at e; subst e; exact ⟨_, rfl, a⟩
  | _, _, i + 1, _, .cons _ t, e => by
    obtain ⟨v, h1, h2⟩ := t.get (i := i) (by simpa using e)
    exact ⟨v, by simpa using h1, h2⟩
theorem RDs.get' {K : Frag} {G : Hp} : ∀ {vs : List V} {ds : List PyData} {i : Nat} {v : V}, RDs K G vs ds → vs[i]? = some v → ∃ d, ds[i]? = some d ∧ RD K G v d
  | _, _, _, _, .nil, e => by simp at e
  | _, _, 0, _, .cons a _, e => by simp at e; subst e; exact ⟨_, rfl, a⟩
  | _, _, i + 1, _, .cons _ t, e => by
    obtain ⟨v, h1, h2⟩ := t.get' (i := i) (by simpa using e)
    exact ⟨v, by simpa using h1, h2⟩
theorem RDs.take {K : Frag} {G : Hp} : ∀ {vs : List V} {ds : List PyData} (n : Nat), RDs K G vs ds → RDs K G (vs.take n) (ds.take n)
  | _, _, 0, _ => .nil
  | _, _, _ + 1, .nil => .nil
  | _, _, n + 1, .cons a t => .cons a (t.take n)
theorem RDs.drop {K : Frag} {G : Hp} : ∀ {vs : List V} {ds : List PyData} (n : Nat), RDs K G vs ds → RDs K G (vs.drop n) (ds.drop n)
  | _, _, 0, h => h
  | _, _, _ + 1, .nil => .nil
  | _, _, n + 1, .cons _ t => t.drop n
theorem RDs.set {K : Frag} {G : Hp} {v : V} {d : PyData} (h : RD K G v d) : ∀ {vs : List V} {ds : List PyData} (n : Nat), RDs K G vs ds → RDs K G (vs.set n v) (ds.set n d)
  | _, _, _, .nil => .nil
  | _, _, 0, .cons _ t => .cons h t
  | _, _, n + 1, .cons a t => .cons a (t.set h n)
theorem RDs.ints {K : Frag} {G : Hp} : ∀ {ds : List PyData} {vs : List V} {is : List Int}, RDs K G vs ds → intsD ds = some is → vs = is.map V.int
  | [], _, _, h, e => by cases h; cases e; rfl
  | d :: ds, _, is, h, e => by
    cases h with
    | cons h1 h2 =>
      cases h1 with
      | int i =>
        unfold intsD at e
        cases q : intsD ds with
        | none => rw [q] at e; cases e
        | some js =>
          rw [q] at e
          cases e
          rw [h2.ints q]
          rfl
      | non => cases e
      | bl _ => cases e
      | str _ => cases e
      | lst _ _ => cases e
      | tup _ _ => cases e
theorem RDs.of_ints {K : Frag} {G : Hp} : ∀ is : List Int, RDs K G (is.map V.int) (is.map PyData.int)
  | [] => .nil
  | i :: is => .cons (.int i) (.of_ints is)

/-! ### the law's state -/
structure StA where
  sa : Addr
  ca : Addr
  la : Addr
def stDict (c : StA) (n : Int) : List (Key × V) := [(Sum.inr "cells", .ref c.ca), (Sum.inr "lefts", .ref c.la), (Sum.inr "at", .int n)]
structure StOk (c : StA) (N : Nat) (H : Hp) : Prop where
  ex : ∃ (cs ls : List Int) (n : Int), H c.sa = some (.dK (stDict c n)) ∧ H c.ca = some (.lst (cs.map V.int)) ∧ H c.la = some (.lst (ls.map V.int)) ∧ cs ≠ [] ∧ ls.length = cs.length ∧ 0 ≤ n ∧ n ≤ N
  ne : c.ca ≠ c.la
theorem StOk.sa {c : StA} {N : Nat} {H : Hp} (s : StOk c N H) : ∃ o, H c.sa = some o := let ⟨_, _, _, h, _⟩ := s.ex; ⟨_, h⟩
theorem StOk.la {c : StA} {N : Nat} {H : Hp} (s : StOk c N H) : ∃ o, H c.la = some o := let ⟨_, _, _, _, _, h, _⟩ := s.ex; ⟨_, h⟩
/-- kept: all that was tracked but the state -/
def Fr (c : StA) (H H' : Hp) : Prop := ∀ b o, b ≠ c.sa → b ≠ c.la → H b = some o → H' b = some o
theorem Fr.refl {c : StA} {H : Hp} : Fr c H H := fun _ _ _ _ h => h
theorem Fr.trans {c : StA} {H H1 H2 : Hp} (a : Fr c H H1) (b : Fr c H1 H2) : Fr c H H2 := fun x o h1 h2 e => b x o h1 h2 (a x o h1 h2 e)
theorem Fr.of {c : StA} {H H' : Hp} (h : Same H H') : Fr c H H' := fun b o _ _ e => h b o e
theorem Fr.hide {c : StA} {H H' : Hp} {O : List Addr} (f : Fr c H H') (h1 : c.sa ∈ O) (h2 : c.la ∈ O) : Same (hide O H) (hide O H') := fun b o e => by
  obtain ⟨hb, e⟩ := hide_some e
  rw [hide_out hb]
  exact f b o (fun q => hb (q ▸ h1)) (fun q => hb (q ▸ h2)) e
theorem StOk.same {c : StA} {N : Nat} {H H' : Hp} (s : StOk c N H) (h : Same H H') : StOk c N H' := by
  obtain ⟨⟨cs, ls, n, h1, h2, h3, r⟩, ne⟩ := s
  exact ⟨⟨cs, ls, n, h _ _ h1, h _ _ h2, h _ _ h3, r⟩, ne⟩
theorem StOk.le {c : StA} {N N' : Nat} {H : Hp} (s : StOk c N H) (h : N ≤ N') : StOk c N' H := by
  obtain ⟨⟨cs, ls, n, h1, h2, h3, h4, h5, h6, h7⟩, ne⟩ := s
  exact ⟨⟨cs, ls, n, h1, h2, h3, h4, h5, h6, by omega⟩, ne⟩

/-! ### values in a heap -/
mutual
inductive RW (K : Frag) (fa : Nat → Addr) (c : StA) (G : Hp) : V → W → Prop
  | d {v : V} {x : PyData} : RD K G v x → RW K fa c G v (.d x)
  | tok : RW K fa c G (.ref c.sa) .tok
  | fn (i : Nat) : RW K fa c G (.ref (fa i)) (.fn i)
  | dK {a : Addr} {kvs : List (Key × V)} {ws : List (Key × W)} : G a = some (.dK kvs) → RK K fa c G kvs ws → RW K fa c G (.ref a) (.dK ws)
  | dT {a : Addr} {kvs : List (List Key × V)} {ws : List (List Key × W)} : G a = some (.dT kvs) → RT K fa c G kvs ws → RW K fa c G (.ref a) (.dT ws)
inductive RK (K : Frag) (fa : Nat → Addr) (c : StA) (G : Hp) : List (Key × V) → List (Key × W) → Prop
  | nil : RK K fa c G [] []
  | cons {k : Key} {v : V} {w : W} {r : List (Key × V)} {s : List (Key × W)} : RW K fa c G v w → RK K fa c G r s → RK K fa c G ((k, v) :: r) ((k, w) :: s)
inductive RT (K : Frag) (fa : Nat → Addr) (c : StA) (G : Hp) : List (List Key × V) → List (List Key × W) → Prop
  | nil : RT K fa c G [] []
  | cons {k : List Key} {v : V} {w : W} {r : List (List Key × V)} {s : List (List Key × W)} : RW K fa c G v w → RT K fa c G r s → RT K fa c G ((k, v) :: r) ((k, w) :: s)
end
mutual
theorem RW.mono {K : Frag} {fa : Nat → Addr} {c : StA} {G G' : Hp} (e : Same G G') {v : V} {w : W} : RW K fa c G v w → RW K fa c G' v w
  | .d h => .d (RD.mono e _ _ h)
  | .tok => .tok
  | .fn i => .fn i
  | .dK h r => .dK (e _ _ h) (RK.mono e r)
  | .dT h r => .dT (e _ _ h) (RT.mono e r)
theorem RK.mono {K : Frag} {fa : Nat → Addr} {c : StA} {G G' : Hp} (e : Same G G') {r : List (Key × V)} {s : List (Key × W)} : RK K fa c G r s → RK K fa c G' r s
  | .nil => .nil
  | .cons h t => .cons (RW.mono e h) (RK.mono e t)
theorem RT.mono {K : Frag} {fa : Nat → Addr} {c : StA} {G G' : Hp} (e : Same G G') {r : List (List Key × V)} {s : List (List Key × W)} : RT K fa c G r s → RT K fa c G' r s
  | .nil => .nil
  | .cons h t => .cons (RW.mono e h) (RT.mono e t)
end
inductive RWs (K : Frag) (fa : Nat → Addr) (c : StA) (G : Hp) : List V → List W → Prop
  | nil : RWs K fa c G [] []
  | cons {v : V} {w : W} {vs : List V} {ws : List W} : RW K fa c G v w → RWs K fa c G vs ws → RWs K fa c G (v :: vs) (w :: ws)
theorem RWs.mono {K : Frag} {fa : Nat → Addr} {c : StA} {G G' : Hp} (e : Same G G') : ∀ {vs : List V} {ws : List W}, RWs K fa c G vs ws → RWs K fa c G' vs ws
  | _, _, .nil => .nil
  | _, _, .cons h t => .cons (h.mono e) (t.mono e)
theorem RWs.len {K : Frag} {fa : Nat → Addr} {c : StA} {G : Hp} : ∀ {vs : List V} {ws : List W}, RWs K fa c G vs ws → vs.length = ws.length
  | _, _, .nil => rfl
  | _, _, .cons _ t => congrArg (· + 1) t.len
theorem RWs.datas {K : Frag} {fa : Nat → Addr} {c : StA} {G : Hp} : ∀ {vs : List V} {ws : List W} {ds : List PyData}, RWs K fa c G vs ws → DS.datas ws = some ds → RDs K G vs ds
  | _, _, ds, .nil, e => by cases e; exact .nil
  | _, _, ds, .cons (w := w) (ws := ws) h t, e => by
    unfold DS.datas at e
    cases q : DS.datas ws with
    | none => rw [q] at e; cases w <;> cases e
    | some xs =>
      rw [q] at e
      cases h with
      | d h => cases e; exact .cons h (t.datas q)
      | tok => cases e
      | fn _ => cases e
      | dK _ _ => cases e
      | dT _ _ => cases e
theorem RW.data {K : Frag} {fa : Nat → Addr} {c : StA} {G : Hp} {v : V} {x : PyData} (h : RW K fa c G v (.d x)) : RD K G v x := by
  cases h; assumption
theorem RW.inti {K : Frag} {fa : Nat → Addr} {c : StA} {G : Hp} {v : V} {i : Int} (h : RW K fa c G v (.d (.int i))) : v = .int i := by
  cases h with | d h => cases h; rfl
theorem RW.booli {K : Frag} {fa : Nat → Addr} {c : StA} {G : Hp} {v : V} {i : Bool} (h : RW K fa c G v (.d (.bool i))) : v = .bl i := by
  cases h with | d h => cases h; rfl

/-! ### own objects -/
/-- a list or dict at a that is hidden, its items not -/
inductive Own (K : Frag) (fa : Nat → Addr) (c : StA) (G H : Hp) (a : Addr) : W → Prop
  | lst {xs : List V} {ds : List PyData} : H a = some (.lst xs) → RDs K G xs ds → Own K fa c G H a (.d (.list ds))
  | dK {kvs : List (Key × V)} {ws : List (Key × W)} : H a = some (.dK kvs) → RK K fa c G kvs ws → Own K fa c G H a (.dK ws)
  | dT {kvs : List (List Key × V)} {ws : List (List Key × W)} : H a = some (.dT kvs) → RT K fa c G kvs ws → Own K fa c G H a (.dT ws)
theorem Own.mono {K : Frag} {fa : Nat → Addr} {c : StA} {G G' H H' : Hp} {a : Addr} {w : W} (o : Own K fa c G H a w) (e : Same G G') (h : H' a = H a) : Own K fa c G' H' a w := by
  cases o with
  | lst h1 h2 => exact .lst (h.trans h1) (RDs.mono e _ _ h2)
  | dK h1 h2 => exact .dK (h.trans h1) (h2.mono e)
  | dT h1 h2 => exact .dT (h.trans h1) (h2.mono e)
/-- an own object that is shown -/
theorem Own.show {K : Frag} {fa : Nat → Addr} {c : StA} {G G' H : Hp} {a : Addr} {w : W} (o : Own K fa c G H a w) (e : Same G G') (h : G' a = H a) : RW K fa c G' (.ref a) w := by
  cases o with
  | lst h1 h2 => exact .d (.lst (h.trans h1) (RDs.mono e _ _ h2))
  | dK h1 h2 => exact .dK (h.trans h1) (h2.mono e)
  | dT h1 h2 => exact .dT (h.trans h1) (h2.mono e)

/-! ### the names -/
structure EnvOk (K : Frag) (fa : Nat → Addr) (c : StA) (N : Nat) (Oi : List Addr) (B : Hp) (O : List Addr) (H : Hp) (σ : L2.St) (r : Env) : Prop where
  sub : ∀ b ∈ Oi, b ∈ O
  sO : c.sa ∈ Oi
  lO : c.la ∈ Oi
  cB : B c.ca ≠ none
  trk : ∀ b ∈ O, ∃ o, H b = some o
  st : StOk c N H
  fr : Fr c B H
  len : σ.length = r.length
  sh : ∀ (i : Nat) w, r[i]? = some (.sh w) → ∃ v, σ[i]? = some (some v) ∧ RW K fa c (hide O H) v w
  ow : ∀ (i : Nat) w, r[i]? = some (.ow w) → ∃ a, σ[i]? = some (some (.ref a)) ∧ a ∈ O ∧ B a = none ∧ a ∉ Oi ∧ Own K fa c (hide O H) H a w
  inj : ∀ (i j : Nat) w w' a, r[i]? = some (.ow w) → r[j]? = some (.ow w') → σ[i]? = some (some (.ref a)) → σ[j]? = some (some (.ref a)) → i = j
section
variable {K : Frag} {fa : Nat → Addr} {c : StA} {N N' : Nat} {Oi O : List Addr} {B H H' : Hp} {σ : L2.St} {r : Env}
theorem EnvOk.sO' (e : EnvOk K fa c N Oi B O H σ r) : c.sa ∈ O := e.sub _ e.sO
theorem EnvOk.lO' (e : EnvOk K fa c N Oi B O H σ r) : c.la ∈ O := e.sub _ e.lO
theorem EnvOk.fresh (e : EnvOk K fa c N Oi B O H σ r) {p : Addr} (h : H p = none) : p ∉ O := fun q => by
  obtain ⟨o, ho⟩ := e.trk p q
  rw [h] at ho; cases ho
/-- behind an expression: all is kept but the state -/
theorem EnvOk.step (e : EnvOk K fa c N Oi B O H σ r) (f : Fr c H H') (s : StOk c N' H') : EnvOk K fa c N' Oi B O H' σ r where
  sub := e.sub
  sO := e.sO
  lO := e.lO
  cB := e.cB
  trk := fun b hb => by
    by_cases h1 : b = c.sa
    · subst h1; exact s.sa
    · by_cases h2 : b = c.la
      · subst h2; exact s.la
      · obtain ⟨o, ho⟩ := e.trk b hb
        exact ⟨o, f b o h1 h2 ho⟩
  st := s
  fr := e.fr.trans f
  len := e.len
  sh := fun i w h => by
    obtain ⟨v, h1, h2⟩ := e.sh i w h
    exact ⟨v, h1, h2.mono (f.hide e.sO' e.lO')⟩
  ow := fun i w h => by
    obtain ⟨a, h1, h2, h3, h4, h5⟩ := e.ow i w h
    obtain ⟨o, ho⟩ := e.trk a h2
    have n1 : a ≠ c.sa := fun q => h4 (q ▸ e.sO)
    have n2 : a ≠ c.la := fun q => h4 (q ▸ e.lO)
    exact ⟨a, h1, h2, h3, h4, h5.mono (f.hide e.sO' e.lO') ((f a o n1 n2 ho).trans ho.symm)⟩
  inj := e.inj
end
end DS

set_option Elab.async false
set_option linter.all false
set_option maxRecDepth 100000
set_option maxHeartbeats 4000000
/-! DS2: the text against the small language; readings. -/
namespace DS
open PySem PySem.Spec PyProof.Rows L2

/-! ### what stands around -/
structure Stc where
  P : Program
  w : World
  K : Frag
  mg : Str → Option Value
  base : Heap
  k : Nat
  fa : Nat → Addr
  ct : Nat → Addr
  fs : Fns
  gs : List W
  fn : List Str
  gn : List Str

inductive RF (K : Frag) (G : Hp) : List (Str × V) → List (Str × PyData) → Prop
  | nil : RF K G [] []
  | cons {x : Str} {v : V} {d : PyData} {r : List (Str × V)} {s : List (Str × PyData)} : RD K G v d → RF K G r s → RF K G ((x, v) :: r) ((x, d) :: s)
theorem RF.mono {K : Frag} {G G' : Hp} (e : Same G G') : ∀ {r : List (Str × V)} {s : List (Str × PyData)}, RF K G r s → RF K G' r s
  | _, _, .nil => .nil
  | _, _, .cons h t => .cons (RD.mono e _ _ h) (t.mono e)
/-- an error in the heap -/
def XR (T : Stc) (O : List Addr) (H : Hp) (x : Exc) (cls : Value) (d : Option Addr) : Prop :=
  cls = .ref (T.ct x.cls) ∧ ((x.fs = [] ∧ d = none) ∨ ∃ dx fs, d = some dx ∧ dx ∉ O ∧ H dx = some (.xd fs) ∧ RF T.K (hide O H) fs x.fs)
abbrev EXk := Exc → Nat → Prop
/-- what is wanted of an error, from H on -/
def EX (T : Stc) (Ex : XK) (c : StA) (O : List Addr) (H : Hp) : EXk := fun x n => ∀ cls d H', Fr c H H' → StOk c n H' → XR T O H' x cls d → Ex cls d H'
/-- a value, or an own object that is borrowed -/
def RB (T : Stc) (c : StA) (O : List Addr) (H : Hp) (bw : Bool) (v : V) (w : W) : Prop :=
  RW T.K T.fa c (hide O H) v w ∨ (bw = true ∧ ∃ a, v = .ref a ∧ a ∈ O ∧ a ≠ c.sa ∧ a ≠ c.la ∧ Own T.K T.fa c (hide O H) H a w)
def Fin (T : Stc) (c : StA) (O : List Addr) (H : Hp) (bw : Bool) (Q : VK) : W → Nat → Prop := fun w n => ∀ v H', Fr c H H' → StOk c n H' → RB T c O H' bw v w → Q v H'
section
variable {T : Stc} {Ex : XK} {c : StA} {O Oi : List Addr} {H H1 H2 B : Hp} {bw : Bool} {Q : VK} {N n : Nat} {σ : L2.St} {r : Env}
theorem EX.step (f : Fr c H H1) {x : Exc} {n : Nat} (h : EX T Ex c O H x n) : EX T Ex c O H1 x n := fun cls d H' f' s q => h cls d H' (f.trans f') s q
theorem Fin.step (f : Fr c H H1) {w : W} {n : Nat} (h : Fin T c O H bw Q w n) : Fin T c O H1 bw Q w n := fun v H' f' s q => h v H' (f.trans f') s q
theorem RB.step (f : Fr c H H1) (h1 : c.sa ∈ O) (h2 : c.la ∈ O) (ht : ∀ b ∈ O, ∃ o, H b = some o) {v : V} {w : W} (h : RB T c O H bw v w) : RB T c O H1 bw v w := by
  rcases h with h | ⟨hb, a, e, ha, n1, n2, o⟩
  · exact .inl (h.mono (f.hide h1 h2))
  · obtain ⟨u, hu⟩ := ht a ha
    exact .inr ⟨hb, a, e, ha, n1, n2, o.mono (f.hide h1 h2) ((f a u n1 n2 hu).trans hu.symm)⟩
theorem RB.plain {v : V} {w : W} (h : RB T c O H false v w) : RW T.K T.fa c (hide O H) v w := by
  rcases h with h | ⟨z, _⟩
  · exact h
  · cases z
theorem RB.int {v : V} {i : Int} (h : RB T c O H bw v (.d (.int i))) : v = .int i := by
  rcases h with h | ⟨_, a, _, _, _, _, o⟩
  · exact h.inti
  · cases o
theorem RB.bool {v : V} {i : Bool} (h : RB T c O H bw v (.d (.bool i))) : v = .bl i := by
  rcases h with h | ⟨_, a, _, _, _, _, o⟩
  · exact h.booli
  · cases o
theorem RB.lst {v : V} {ds : List PyData} (h : RB T c O H bw v (.d (.list ds))) : ∃ a xs, v = .ref a ∧ H a = some (.lst xs) ∧ RDs T.K (hide O H) xs ds := by
  rcases h with h | ⟨_, a, e, _, _, _, o⟩
  · cases h with
    | d h => cases h with
      | lst h1 h2 => exact ⟨_, _, rfl, hide_le _ _ h1, h2⟩
  · cases o with
    | lst h1 h2 => exact ⟨_, _, e, h1, h2⟩
theorem RB.tup {v : V} {ds : List PyData} (h : RB T c O H bw v (.d (.tuple ds))) : ∃ a xs, v = .ref a ∧ SqT T.K (hide O H) a xs ∧ RDs T.K (hide O H) xs ds := by
  rcases h with h | ⟨_, a, e, _, _, _, o⟩
  · cases h with
    | d h => cases h with
      | tup h1 h2 => exact ⟨_, _, rfl, h1, h2⟩
  · cases o
theorem RB.dk {v : V} {ws : List (Key × W)} (h : RB T c O H bw v (.dK ws)) : ∃ a kvs, v = .ref a ∧ H a = some (.dK kvs) ∧ RK T.K T.fa c (hide O H) kvs ws := by
  rcases h with h | ⟨_, a, e, _, _, _, o⟩
  · cases h with
    | dK h1 h2 => exact ⟨_, _, rfl, hide_le _ _ h1, h2⟩
  · cases o with
    | dK h1 h2 => exact ⟨_, _, e, h1, h2⟩
theorem RB.dt {v : V} {ws : List (List Key × W)} (h : RB T c O H bw v (.dT ws)) : ∃ a kvs, v = .ref a ∧ H a = some (.dT kvs) ∧ RT T.K T.fa c (hide O H) kvs ws := by
  rcases h with h | ⟨_, a, e, _, _, _, o⟩
  · cases h with
    | dT h1 h2 => exact ⟨_, _, rfl, hide_le _ _ h1, h2⟩
  · cases o with
    | dT h1 h2 => exact ⟨_, _, e, h1, h2⟩
mutual
theorem dp_same {K : Frag} {G G' : Hp} (e : Same G G') : ∀ (d : PyData) (v : V), Dp K G v d → Dp K G' v d
  | .none, _, h => by cases h; exact .non
  | .bool b, _, h => by cases h; exact .bl b
  | .int b, _, h => by cases h; exact .int b
  | .str b, _, h => by cases h; exact .str b
  | .list ds, _, h => by
    cases h with
    | lst h1 h2 => exact .lst (e.seq h1) (dps_same e ds _ h2)
  | .tuple ds, _, h => by
    cases h with
    | tup h1 h2 => exact .tup (sqT_same e h1) (dps_same e ds _ h2)
  | .dict _, _, h => by cases h
theorem dps_same {K : Frag} {G G' : Hp} (e : Same G G') : ∀ (ds : List PyData) (vs : List V), DpAll K G vs ds → DpAll K G' vs ds
  | [], _, h => by cases h; exact .nil
  | d :: ds, _, h => by
    cases h with
    | cons h1 h2 => exact .cons (dp_same e d _ h1) (dps_same e ds _ h2)
end
theorem RB.dp {v : V} {x : PyData} (h : RB T c O H bw v (.d x)) : Dp T.K H v x := by
  rcases h with h | ⟨_, a, e, _, _, _, o⟩
  · exact dp_same hide_le _ _ (RD.dp _ _ h.data)
  · cases o with
    | lst h1 h2 => rw [e]; exact .lst (.inl (.inl h1)) (dps_same hide_le _ _ (RDs.dp _ _ h2))

/-- a new list, tuple -/
theorem mk_lst {K : Frag} {fa : Nat → Addr} {p : Addr} {xs : List V} {ds : List PyData} (hp : H p = none) (hO : p ∉ O) (h : RDs K (hide O H) xs ds) : RW K fa c (hide O (upd H p (.lst xs))) (.ref p) (.d (.list ds)) :=
  .d (.lst (by rw [hide_out hO]; exact upd_same) (RDs.mono (hide_same (same_new hp)) _ _ h))
theorem mk_tup {K : Frag} {fa : Nat → Addr} {p : Addr} {xs : List V} {ds : List PyData} (hp : H p = none) (hO : p ∉ O) (h : RDs K (hide O H) xs ds) : RW K fa c (hide O (upd H p (.tup xs))) (.ref p) (.d (.tuple ds)) :=
  .d (.tup (.inl (.inl (by rw [hide_out hO]; exact upd_same))) (RDs.mono (hide_same (same_new hp)) _ _ h))

/-! ### readings -/
abbrev EOk (T : Stc) := EnvOk T.K T.fa
def rdE (T : Stc) (Ex : XK) (bw : Bool) (e : E) : TE := fun σ H Q => ∃ c N Oi B O r, EOk T c N Oi B O H σ r ∧ (evE T.fs T.gs r bw e).wp N (Fin T c O H bw Q) (EX T Ex c O H)
def FinT (c : StA) (H : Hp) (Q : Bool → Hp → Prop) : Bool → Nat → Prop := fun k n => ∀ H', Fr c H H' → StOk c n H' → Q k H'
def rdT (T : Stc) (Ex : XK) (e : E) : TT := fun σ H Q => ∃ c N Oi B O r, EOk T c N Oi B O H σ r ∧ ((evE T.fs T.gs r false e).bind fun x => opt (wBool x)).wp N (FinT c H Q) (EX T Ex c O H)
def FinL (T : Stc) (c : StA) (O : List Addr) (H : Hp) (Q : List V → Hp → Prop) : List W → Nat → Prop := fun ws n => ∀ vs H', Fr c H H' → StOk c n H' → RWs T.K T.fa c (hide O H') vs ws → Q vs H'
def rdL (T : Stc) (Ex : XK) (es : EL) : TA := fun σ H Q => ∃ c N Oi B O r, EOk T c N Oi B O H σ r ∧ (evL T.fs T.gs r es).wp N (FinL T c O H Q) (EX T Ex c O H)

theorem PE.weak {X : Cx} {e : Expr} {t t' : TE} (h : PE X e t) (i : ∀ σ H Q, t' σ H Q → t σ H Q) : PE X e t' := ⟨fun pins s σ H Q I q => h.run pins s σ H Q I (i σ H Q q)⟩
theorem PT.weak {X : Cx} {e : Expr} {t t' : TT} (h : PT X e t) (i : ∀ σ H Q, t' σ H Q → t σ H Q) : PT X e t' := ⟨fun pins s σ H Q I q => h.run pins s σ H Q I (i σ H Q q)⟩
theorem PW.weak {X : Cx} {e : Expr} {t t' : TT} (h : PW X e t) (i : ∀ σ H Q, t' σ H Q → t σ H Q) : PW X e t' := ⟨fun wh pins s σ H Q I q => h.run wh pins s σ H Q I (i σ H Q q)⟩
theorem PA.weak {X : Cx} {e : List Expr} {t t' : TA} (h : PA X e t) (i : ∀ σ H Q, t' σ H Q → t σ H Q) : PA X e t' := ⟨fun pos pins s σ H Q I q => h.run pos pins s σ H Q I (i σ H Q q)⟩

/-- one part, then the rest -/
theorem rd1 {β : Type} {bw : Bool} {a : E} {f : W → M β} {Qf : β → Nat → Prop} {P : VK} (env : EOk T c N Oi B O H σ r) (h : ((evE T.fs T.gs r bw a).bind f).wp N Qf (EX T Ex c O H))
    (k : ∀ w n v H1, Fr c H H1 → EOk T c n Oi B O H1 σ r → RB T c O H1 bw v w → (f w).wp n Qf (EX T Ex c O H1) → P v H1) : rdE T Ex bw a σ H P := by
  refine ⟨c, N, Oi, B, O, r, env, M.wp_mono ?_ (fun x n h => h) (M.wp_bind.mp h)⟩
  intro w n hq v H1 f1 s1 rb
  exact k w n v H1 f1 (env.step f1 s1) rb (M.wp_mono (fun _ _ h => h) (fun x n h => h.step f1) hq)
theorem rd1T {β : Type} {a : E} {f : Bool → M β} {Qf : β → Nat → Prop} {P : Bool → Hp → Prop} (env : EOk T c N Oi B O H σ r) (h : ((evE T.fs T.gs r false a).bind fun x => (opt (wBool x)).bind f).wp N Qf (EX T Ex c O H))
    (k : ∀ b n H1, Fr c H H1 → EOk T c n Oi B O H1 σ r → (f b).wp n Qf (EX T Ex c O H1) → P b H1) : rdT T Ex a σ H P := by
  rw [← M.bind_assoc] at h
  refine ⟨c, N, Oi, B, O, r, env, M.wp_mono ?_ (fun x n h => h) (M.wp_bind.mp h)⟩
  intro b n hq H1 f1 s1
  exact k b n H1 f1 (env.step f1 s1) (M.wp_mono (fun _ _ h => h) (fun x n h => h.step f1) hq)
theorem rd1L {β : Type} {es : EL} {f : List W → M β} {Qf : β → Nat → Prop} {P : List V → Hp → Prop} (env : EOk T c N Oi B O H σ r) (h : ((evL T.fs T.gs r es).bind f).wp N Qf (EX T Ex c O H))
    (k : ∀ ws n vs H1, Fr c H H1 → EOk T c n Oi B O H1 σ r → RWs T.K T.fa c (hide O H1) vs ws → (f ws).wp n Qf (EX T Ex c O H1) → P vs H1) : rdL T Ex es σ H P := by
  refine ⟨c, N, Oi, B, O, r, env, M.wp_mono ?_ (fun x n h => h) (M.wp_bind.mp h)⟩
  intro w n hq v H1 f1 s1 rb
  exact k w n v H1 f1 (env.step f1 s1) rb (M.wp_mono (fun _ _ h => h) (fun x n h => h.step f1) hq)
end

end DS

set_option Elab.async false
set_option linter.all false
set_option maxRecDepth 100000
set_option maxHeartbeats 4000000
/-! DS3: operations by values. -/
namespace DS
open PySem PySem.Spec PySem.SeqAt PyProof.Rows L2

/-! ### the order of data -/
theorem szB_succ (op : Cop) (a b : Nat) : szB op (a + 1) (b + 1) = szB op a b := by
  cases op <;> simp [szB]
theorem ordDs_cons {op : Cop} {x y : PyData} {xs ys : List PyData} {b : Bool} (h : ordDs op (x :: xs) (y :: ys) = some b) : ∃ t, ordDs op xs ys = some t ∧ (if PyData.eqv x y = true then some t else ordD op x y) = some b := by
  unfold ordDs at h
  cases q : ordDs op xs ys with
  | none => rw [q] at h; cases h
  | some t => rw [q] at h; exact ⟨t, rfl, h⟩
theorem ordDs_all {op : Cop} : ∀ (xs ys : List PyData) (b : Bool), ordDs op xs ys = some b → ∀ j, j < xs.length → j < ys.length → PyData.eqv (xs.getD j .none) (ys.getD j .none) = false → ∃ c, ordD op (xs.getD j .none) (ys.getD j .none) = some c
  | [], _, _, _, j, h1, _, _ => absurd h1 (Nat.not_lt_zero _)
  | _ :: _, [], _, _, j, _, h2, _ => absurd h2 (Nat.not_lt_zero _)
  | x :: xs, y :: ys, b, h, 0, _, _, hf => by
    obtain ⟨t, _, q⟩ := ordDs_cons h
    have hf : PyData.eqv x y = false := hf
    rw [hf, if_neg Bool.false_ne_true] at q
    exact ⟨b, q⟩
  | x :: xs, y :: ys, b, h, j + 1, h1, h2, hf => by
    obtain ⟨t, q, _⟩ := ordDs_cons h
    simpa using ordDs_all xs ys t q j (by simpa using h1) (by simpa using h2) (by simpa using hf)
theorem lexAt_ords (op : Cop) (e r : Nat → Bool) : ∀ (xs ys : List PyData) (i : Nat) (b : Bool), (∀ j, e (i + j) = PyData.eqv (xs.getD j .none) (ys.getD j .none)) →
    (∀ j c, ordD op (xs.getD j .none) (ys.getD j .none) = some c → r (i + j) = c) → ordDs op xs ys = some b →
    Ob.lexAt e r (szB op xs.length ys.length) i (min xs.length ys.length) = b
  | [], ys, i, b, _, _, h => by
    unfold ordDs at h
    rw [show min ([] : List PyData).length ys.length = 0 by simp]
    exact Option.some.inj h
  | x :: xs, [], i, b, _, _, h => by
    unfold ordDs at h
    rw [show min (x :: xs).length ([] : List PyData).length = 0 by simp]
    exact Option.some.inj h
  | x :: xs, y :: ys, i, b, he, hr, h => by
    obtain ⟨t, ht, h⟩ := ordDs_cons h
    rw [show min (x :: xs).length (y :: ys).length = min xs.length ys.length + 1 by simp only [List.length_cons]; omega, Ob.lexAt_succ]
    have e0 : e i = PyData.eqv x y := he 0
    rw [e0]
    by_cases q : PyData.eqv x y = true
    · rw [if_pos q] at h ⊢
      cases h
      rw [show (x :: xs).length = xs.length + 1 from rfl, show (y :: ys).length = ys.length + 1 from rfl, szB_succ]
      refine lexAt_ords op e r xs ys (i + 1) b (fun j => ?_) (fun j c hc => ?_) ht
      · have := he (j + 1)
        rw [show i + 1 + j = i + (j + 1) by omega]
        simpa using this
      · have := hr (j + 1) c (by simpa using hc)
        rw [show i + 1 + j = i + (j + 1) by omega]
        exact this
    · rw [if_neg q] at h ⊢
      exact hr 0 b h
def cmpOpOf : Cop → CmpOp
  | .eq => .Eq
  | .ne => .NotEq
  | .lt => .Lt
  | .le => .LtE
  | .gt => .Gt
  | .ge => .GtE
  | .isin => .In
  | .notin => .NotIn
theorem rc_tuples {A : Around} {s : Shared} {l b : Addr} {items items2 : Array Value} {e r : Nat → Bool} (op : Cop) (ho : op = .lt ∨ op = .le ∨ op = .gt ∨ op = .ge) (hl : s.heap.IsTuple l items) (hb : s.heap.IsTuple b items2) (hu : A.units < cLine)
    (he : ∀ j (h1 : j < items.size) (h2 : j < items2.size), EqAt A.in1 s items[j] items2[j] (e j))
    (hr : ∀ j (h1 : j < items.size) (h2 : j < items2.size), e j = false → Ob.RcOp (cmpOpOf op) A.in1 s items[j] items2[j] (r j)) :
    Ob.RcOp (cmpOpOf op) A s (.ref l) (.ref b) (Ob.lexAt e r (szB op items.size items2.size) 0 (min items.size items2.size)) := by
  rcases ho with rfl | rfl | rfl | rfl
  · exact Ob.RcOp.tuples_lt hl hb hu he hr
  · exact Ob.RcOp.tuples_le hl hb hu he hr
  · exact Ob.RcOp.tuples_gt hl hb hu he hr
  · exact Ob.RcOp.tuples_ge hl hb hu he hr
theorem rc_ints {A : Around} {s : Shared} (op : Cop) (ho : op = .lt ∨ op = .le ∨ op = .gt ∨ op = .ge) (a b : Int) (t u : Tok) : Ob.RcOp (cmpOpOf op) A s (.int a t) (.int b u) (intB op a b) := by
  rcases ho with rfl | rfl | rfl | rfl
  · exact Ob.RcOp.lt_int a b t u
  · exact Ob.RcOp.le_int a b t u
  · exact Ob.RcOp.gt_int a b t u
  · exact Ob.RcOp.ge_int a b t u
theorem readsAll_at {h : Heap} : ∀ {us : List Value} {ds : List PyData} {as : List Addr}, ReadsAll h us ds as → ∀ (j : Nat) (h1 : j < us.length), ∃ bs, Reads h us[j] (ds.getD j .none) bs
  | _, _, _, .nil, j, h1 => absurd h1 (Nat.not_lt_zero _)
  | _, _, _, .cons q _, 0, _ => ⟨_, q⟩
  | _, _, _, .cons _ t, j + 1, h1 => by
    obtain ⟨bs, q⟩ := readsAll_at t j (by simpa using h1)
    exact ⟨bs, by simpa using q⟩
theorem readsAll_len {h : Heap} : ∀ {us : List Value} {ds : List PyData} {as : List Addr}, ReadsAll h us ds as → us.length = ds.length
  | _, _, _, .nil => rfl
  | _, _, _, .cons _ t => congrArg (· + 1) (readsAll_len t)
theorem canLayAll_at : ∀ {ds : List PyData} (j : Nat), PyData.canLayAll0 ds = true → (ds.getD j .none).canLay0 = true
  | [], _, _ => by simp [PyData.canLay0]
  | d :: ds, 0, h => by
    have : d.canLay0 = true ∧ PyData.canLayAll0 ds = true := by simpa [PyData.canLayAll0] using h
    exact this.1
  | d :: ds, j + 1, h => by
    have : d.canLay0 = true ∧ PyData.canLayAll0 ds = true := by simpa [PyData.canLayAll0] using h
    simpa using canLayAll_at j this.2
theorem depthAll_at : ∀ {ds : List PyData} (j : Nat), (ds.getD j .none).depth ≤ PyData.depthAll ds
  | [], _ => by simp [PyData.depth]
  | d :: ds, 0 => by
    show d.depth ≤ PyData.depthAll (d :: ds)
    unfold PyData.depthAll
    omega
  | d :: ds, j + 1 => by
    have := depthAll_at (ds := ds) j
    show (ds.getD j .none).depth ≤ PyData.depthAll (d :: ds)
    unfold PyData.depthAll
    omega
/-- data are compared as told -/
theorem rc_data (op : Cop) (ho : op = .lt ∨ op = .le ∨ op = .gt ∨ op = .ge) : ∀ (k : Nat) (x y : PyData) (b : Bool) (A : Around) (s : Shared) (u v : Value) (as bs : List Addr), x.depth ≤ k → ordD op x y = some b → Reads s.heap u x as → Reads s.heap v y bs →
    x.canLay0 = true → y.canLay0 = true → A.units + k < cLine → Ob.RcOp (cmpOpOf op) A s u v b := by
  intro k
  induction k with
  | zero =>
    intro x y b A s u v as bs hk h ru rv cx cy hu
    cases x with
    | int i =>
      cases y with
      | int j =>
        cases ru
        cases rv
        unfold ordD at h
        cases h
        exact rc_ints op ho i j _ _
      | _ => simp [ordD] at h
    | tuple xs =>
      simp [PyData.depth] at hk
    | _ => simp [ordD] at h
  | succ k ih =>
    intro x y b A s u v as bs hk h ru rv cx cy hu
    cases x with
    | int i =>
      cases y with
      | int j =>
        cases ru
        cases rv
        unfold ordD at h
        cases h
        exact rc_ints op ho i j _ _
      | _ => simp [ordD] at h
    | tuple xs =>
      cases y with
      | tuple ys =>
        unfold ordD at h
        cases ru with
        | tuple g1 g2 g3 g4 =>
          cases rv with
          | tuple f1 f2 f3 f4 =>
            rename_i a0 o vs n a2 o2 vs2 n2
            have l1 := readsAll_len g4
            have l2 := readsAll_len f4
            have cx' : PyData.canLayAll0 xs = true := by simpa [PyData.canLay0] using cx
            have cy' : PyData.canLayAll0 ys = true := by simpa [PyData.canLay0] using cy
            have hk' : PyData.depthAll xs ≤ k := by
              have : (PyData.tuple xs).depth = PyData.depthAll xs + 1 := by simp [PyData.depth, Nat.add_comm]
              omega
            have at1 : ∀ j (h1 : j < vs.size), ∃ cs, Reads s.heap vs[j] (xs.getD j .none) cs := fun j h1 => by
              have := readsAll_at g4 j (by simpa using h1)
              simpa using this
            have at2 : ∀ j (h1 : j < vs2.size), ∃ cs, Reads s.heap vs2[j] (ys.getD j .none) cs := fun j h1 => by
              have := readsAll_at f4 j (by simpa using h1)
              simpa using this
            have R := rc_tuples (A := A) (s := s) op ho (e := fun j => PyData.eqv (xs.getD j .none) (ys.getD j .none)) (r := fun j => (ordD op (xs.getD j .none) (ys.getD j .none)).getD b) ⟨o, g1, g2, n, g3⟩ ⟨o2, f1, f2, n2, f3⟩ (by omega)
              (fun j h1 h2 => by
                obtain ⟨cs, q1⟩ := at1 j h1
                obtain ⟨ds, q2⟩ := at2 j h2
                refine SeqAt.eqAt_reads _ _ _ s _ _ _ _ q1 q2 (canLayAll_at j cx') (canLayAll_at j cy') ?_
                have d1 := depthAll_at (ds := xs) j
                have d2 : min (xs.getD j .none).depth (ys.getD j .none).depth ≤ (xs.getD j .none).depth := Nat.min_le_left _ _
                show A.units + 1 + _ < cLine
                omega)
              (fun j h1 h2 hf => by
                obtain ⟨cs, q1⟩ := at1 j h1
                obtain ⟨ds, q2⟩ := at2 j h2
                have d1 := depthAll_at (ds := xs) j
                cases hq : ordD op (xs.getD j .none) (ys.getD j .none) with
                | some z =>
                  exact ih _ _ z A.in1 s _ _ _ _ (by omega) hq q1 q2 (canLayAll_at j cx') (canLayAll_at j cy') (by show A.units + 1 + k < cLine; omega)
                | none =>
                  obtain ⟨z, hz⟩ := ordDs_all xs ys b h j (by have : vs.size = xs.length := by simpa using l1
                                                              omega) (by have : vs2.size = ys.length := by simpa using l2
                                                                         omega) hf
                  rw [hz] at hq
                  cases hq)
            rw [show vs.size = xs.length by simpa using l1, show vs2.size = ys.length by simpa using l2] at R
            rw [lexAt_ords op _ _ xs ys 0 b (fun j => by simp) (fun j z hz => by simp only [Nat.zero_add]; rw [hz]; rfl) h] at R
            exact R
      | _ => simp [ordD] at h
    | _ => simp [ordD] at h
end DS

set_option Elab.async false
set_option linter.all false
set_option maxRecDepth 100000
set_option maxHeartbeats 4000000
/-! DS4: operators, subscripts, calls of built-ins, by plain values. -/
namespace DS
open PySem PySem.Spec PySem.SeqAt PyProof.Rows L2

/-- what is known where an operation is done -/
structure At (T : Stc) (c : StA) (O : List Addr) (H : Hp) : Prop where
  trk : ∀ b ∈ O, ∃ o, H b = some o
theorem At.fresh {T : Stc} {c : StA} {O : List Addr} {H : Hp} (e : At T c O H) {p : Addr} (h : H p = none) : p ∉ O := fun q => by
  obtain ⟨o, ho⟩ := e.trk p q
  rw [h] at ho; cases ho
/-- the answer w, in a heap that has grown -/
def Ans (T : Stc) (c : StA) (O : List Addr) (H : Hp) (w : W) (Q : VK) : Prop := ∀ v H', Same H H' → RW T.K T.fa c (hide O H') v w → Q v H'
/-- .. that is new, if it is a list or a dict: it can be hidden -/
def RFr (T : Stc) (c : StA) (O : List Addr) (H H' : Hp) (v : V) (w : W) : Prop := RW T.K T.fa c (hide O H') v w ∧ (isBox w = true → ∃ a, v = .ref a ∧ H a = none ∧ Own T.K T.fa c (hide (a :: O) H') H' a w)
def AnsF (T : Stc) (c : StA) (O : List Addr) (H : Hp) (w : W) (Q : VK) : Prop := ∀ v H', Same H H' → RFr T c O H H' v w → Q v H'
section
variable {T : Stc} {c : StA} {O : List Addr} {H : Hp} {Q : VK} {X : Cx}
theorem Ans.f {w : W} (h : Ans T c O H w Q) : AnsF T c O H w Q := fun v H' s r => h v H' s r.1
theorem RFr.lst {xs : List V} {ds : List PyData} {p : Addr} (hp : H p = none) (hO : p ∉ O) (r : RDs T.K (hide O H) xs ds) : RFr T c O H (upd H p (.lst xs)) (.ref p) (.d (.list ds)) :=
  ⟨mk_lst hp hO r, fun _ => ⟨p, rfl, hp, .lst upd_same (RDs.mono (hide_new hp) _ _ r)⟩⟩
theorem AnsF.int {i : Int} (h : AnsF T c O H (.i i) Q) : Q (.int i) H := h _ _ (Same.refl _) ⟨.d (.int i), fun z => by cases z⟩
theorem AnsF.bool {i : Bool} (h : AnsF T c O H (.b i) Q) : Q (.bl i) H := h _ _ (Same.refl _) ⟨.d (.bl i), fun z => by cases z⟩
theorem AnsF.same {v : V} {w : W} (h : AnsF T c O H w Q) (hb : isBox w = false) (r : RW T.K T.fa c (hide O H) v w) : Q v H := h _ _ (Same.refl _) ⟨r, fun z => by rw [hb] at z; cases z⟩
theorem AnsF.lst {xs : List V} {ds : List PyData} (e : At T c O H) (h : AnsF T c O H (.d (.list ds)) Q) (r : RDs T.K (hide O H) xs ds) : ∀ p, H p = none → Q (.ref p) (upd H p (.lst xs)) := fun p hp => h _ _ (same_new hp) (.lst hp (e.fresh hp) r)
theorem AnsF.tup {xs : List V} {ds : List PyData} (e : At T c O H) (h : AnsF T c O H (.d (.tuple ds)) Q) (r : RDs T.K (hide O H) xs ds) : ∀ p, H p = none → Q (.ref p) (upd H p (.tup xs)) := fun p hp => h _ _ (same_new hp) ⟨mk_tup hp (e.fresh hp) r, fun z => by cases z⟩
theorem Ans.int {i : Int} (h : Ans T c O H (.i i) Q) : Q (.int i) H := h _ _ (Same.refl _) (.d (.int i))
theorem Ans.bool {i : Bool} (h : Ans T c O H (.b i) Q) : Q (.bl i) H := h _ _ (Same.refl _) (.d (.bl i))
theorem Ans.same {v : V} {w : W} (h : Ans T c O H w Q) (r : RW T.K T.fa c (hide O H) v w) : Q v H := h _ _ (Same.refl _) r
theorem Ans.lst {xs : List V} {ds : List PyData} (e : At T c O H) (h : Ans T c O H (.d (.list ds)) Q) (r : RDs T.K (hide O H) xs ds) : ∀ p, H p = none → Q (.ref p) (upd H p (.lst xs)) := fun p hp => h _ _ (same_new hp) (mk_lst hp (e.fresh hp) r)
theorem Ans.tup {xs : List V} {ds : List PyData} (e : At T c O H) (h : Ans T c O H (.d (.tuple ds)) Q) (r : RDs T.K (hide O H) xs ds) : ∀ p, H p = none → Q (.ref p) (upd H p (.tup xs)) := fun p hp => h _ _ (same_new hp) (mk_tup hp (e.fresh hp) r)

theorem cap_le : cap ≤ sizeLine := by rw [sizeLine_eq]; decide
def bopOf : Bop → Operator
  | .add => .Add
  | .sub => .Sub
  | .mul => .Mult
  | .fdiv => .FloorDiv
  | .mod => .Mod
  | .pow => .Pow
  | .shl => .LShift
def rBin (T : Stc) (op : Bop) : R2 := fun x y H Q => ∃ c O b1 b2 a b w, At T c O H ∧ RB T c O H b1 x a ∧ RB T c O H b2 y b ∧ binW op a b = some w ∧ AnsF T c O H w Q
theorem int2_some {f : Int → Int → Option W} {a b w : W} (h : int2 f a b = some w) : ∃ i j, a = .d (.int i) ∧ b = .d (.int j) ∧ f i j = some w := by
  unfold int2 at h
  split at h
  · exact ⟨_, _, rfl, rfl, h⟩
  · cases h
theorem if_some {α : Type} {p : Prop} [Decidable p] {a b : α} (h : (if p then some a else none) = some b) : p ∧ a = b := by
  split at h
  · exact ⟨by assumption, Option.some.inj h⟩
  · cases h
theorem op_bin (op : Bop) (hK : X.K = T.K) : OpR X (binaryOp (bopOf op)) (rBin T op) := by
  intro pins s σ H x y v u Q I rx ry ⟨c, O, b1, b2, a, b, w, e, ra, rb, hw, an⟩
  cases op with
  | add =>
    have hw : addW a b = some w := hw
    unfold addW at hw
    split at hw
    · cases hw
      exact op_add pins s σ H x y v u Q I rx ry ⟨_, _, ra.int, rb.int, an.int⟩
    · obtain ⟨hl, hw⟩ := if_some hw
      subst hw
      obtain ⟨l1, xs, e1, h1, r1⟩ := ra.lst
      obtain ⟨l2, ys, e2, h2, r2⟩ := rb.lst
      exact op_cat pins s σ H x y v u Q I rx ry ⟨l1, l2, xs, ys, e1, e2, h1, h2, by rw [r1.len, r2.len]; exact Nat.le_trans hl cap_le, an.lst e (r1.append r2)⟩
    · obtain ⟨hl, hw⟩ := if_some hw
      subst hw
      obtain ⟨l1, xs, e1, h1, r1⟩ := ra.tup
      obtain ⟨l2, ys, e2, h2, r2⟩ := rb.tup
      rename_i ds es
      refine op_catA pins s σ H x y v u Q I rx ry ⟨l1, l2, xs, ys, e1, e2, by rw [hK]; exact sqT_same hide_le h1, by rw [hK]; exact sqT_same hide_le h2, by rw [r1.len, r2.len]; exact Nat.le_trans hl cap_le, fun q => ?_, fun _ q => ?_, fun _ _ => an.tup e (r1.append r2)⟩
      · subst q
        cases r1
        rw [← e2]
        exact an.same rfl (by rw [e2]; exact .d (.tup h2 r2))
      · subst q
        cases r2
        rw [← e1]
        exact an.same rfl (by rw [e1, List.append_nil]; exact .d (.tup h1 r1))
    · cases hw
  | sub =>
    obtain ⟨i, j, rfl, rfl, hw⟩ := int2_some hw
    cases hw
    exact op_sub pins s σ H x y v u Q I rx ry ⟨i, j, ra.int, rb.int, an.int⟩
  | mul =>
    obtain ⟨i, j, rfl, rfl, hw⟩ := int2_some hw
    obtain ⟨hc, rfl⟩ := if_some (show (if _ then _ else _) = _ from hw)
    exact op_mulW pins s σ H x y v u Q I rx ry ⟨i, j, ra.int, rb.int, hc, an.int⟩
  | fdiv =>
    obtain ⟨i, j, rfl, rfl, hw⟩ := int2_some hw
    obtain ⟨hc, rfl⟩ := if_some (show (if _ then _ else _) = _ from hw)
    exact op_fdivW pins s σ H x y v u Q I rx ry ⟨i, j, ra.int, rb.int, hc, an.int⟩
  | mod =>
    obtain ⟨i, j, rfl, rfl, hw⟩ := int2_some hw
    obtain ⟨hc, rfl⟩ := if_some (show (if _ then _ else _) = _ from hw)
    exact op_mod pins s σ H x y v u Q I rx ry ⟨i, j, ra.int, rb.int, hc, an.int⟩
  | pow =>
    obtain ⟨i, j, rfl, rfl, hw⟩ := int2_some hw
    obtain ⟨hc, rfl⟩ := if_some (show (if _ then _ else _) = _ from hw)
    exact op_pow pins s σ H x y v u Q I rx ry ⟨i, j, ra.int, rb.int, hc, an.int⟩
  | shl =>
    obtain ⟨i, j, rfl, rfl, hw⟩ := int2_some hw
    obtain ⟨hc, rfl⟩ := if_some (show (if _ then _ else _) = _ from hw)
    exact op_shl pins s σ H x y v u Q I rx ry ⟨i, j, ra.int, rb.int, hc, an.int⟩

/-! ### dicts -/
theorem RK.find {K : Frag} {fa : Nat → Addr} {G : Hp} (k : Key) : ∀ {kvs : List (Key × V)} {ws : List (Key × W)}, RK K fa c G kvs ws →
    (findV ws k = none ∧ valV kvs k = none) ∨ ∃ v w, findV ws k = some w ∧ valV kvs k = some v ∧ RW K fa c G v w
  | _, _, .nil => .inl ⟨rfl, rfl⟩
  | _, _, .cons (k := q) (v := v) (w := w) (r := r) (s := s) h t => by
    by_cases e : q = k
    · refine .inr ⟨v, w, ?_, ?_, h⟩
      · unfold findV; rw [List.find?_cons_of_pos (by simp [e])]; rfl
      · unfold valV; rw [List.find?_cons_of_pos (by simp [e])]; rfl
    · have e1 : findV ((q, w) :: s) k = findV s k := by unfold findV; rw [List.find?_cons_of_neg (by simp [e])]
      have e2 : valV ((q, v) :: r) k = valV r k := by unfold valV; rw [List.find?_cons_of_neg (by simp [e])]
      rw [e1, e2]
      exact RK.find k t
theorem RT.find {K : Frag} {fa : Nat → Addr} {G : Hp} (k : List Key) : ∀ {kvs : List (List Key × V)} {ws : List (List Key × W)}, RT K fa c G kvs ws →
    (findV ws k = none ∧ valV kvs k = none) ∨ ∃ v w, findV ws k = some w ∧ valV kvs k = some v ∧ RW K fa c G v w
  | _, _, .nil => .inl ⟨rfl, rfl⟩
  | _, _, .cons (k := q) (v := v) (w := w) (r := r) (s := s) h t => by
    by_cases e : q = k
    · refine .inr ⟨v, w, ?_, ?_, h⟩
      · unfold findV; rw [List.find?_cons_of_pos (by simp [e])]; rfl
      · unfold valV; rw [List.find?_cons_of_pos (by simp [e])]; rfl
    · have e1 : findV ((q, w) :: s) k = findV s k := by unfold findV; rw [List.find?_cons_of_neg (by simp [e])]
      have e2 : valV ((q, v) :: r) k = valV r k := by unfold valV; rw [List.find?_cons_of_neg (by simp [e])]
      rw [e1, e2]
      exact RT.find k t
theorem keyW_rel {w : W} {k : Key} {b : Bool} {x : V} (h : keyW w = some k) (r : RB T c O H b x w) : x = kV k := by
  unfold keyW at h
  split at h
  · cases h; exact r.int
  · cases h
    rcases r with r | ⟨_, a, _, _, _, _, o⟩
    · cases r with | d r => cases r; rfl
    · cases o
  · cases h
theorem keysD_rel {K : Frag} {G : Hp} : ∀ {ds : List PyData} {ks : List Key} {vs : List V}, keysD ds = some ks → RDs K G vs ds → vs = ks.map kV
  | [], _, _, h, r => by cases h; cases r; rfl
  | d :: ds, ks, _, h, r => by
    cases r with
    | cons r1 r2 =>
      unfold keysD at h
      cases q1 : keyD d with
      | none => rw [q1] at h; cases h
      | some k =>
        cases q2 : keysD ds with
        | none => rw [q1, q2] at h; cases h
        | some ks2 =>
          rw [q1, q2] at h
          cases h
          have e2 := keysD_rel q2 r2
          subst e2
          unfold keyD at q1
          split at q1
          · cases q1; cases r1; rfl
          · cases q1; cases r1; rfl
          · cases q1
/-- the tuple that is a key stands in the heap -/
theorem keyT_rel {w : W} {k : List Key} {b : Bool} {x : V} (h : keyT w = some k) (r : RB T c O H b x w) : ∃ a, x = .ref a ∧ SqT T.K H a (k.map kV) := by
  unfold keyT at h
  split at h
  · obtain ⟨a, xs, e, h1, h2⟩ := r.tup
    have e2 := keysD_rel h h2
    subst e2
    exact ⟨a, e, sqT_same hide_le h1⟩
  · cases h

/-! ### comparisons -/
def rCmp (T : Stc) (op : Cop) : R2 := fun x y H Q => ∃ c O b1 b2 a b k, RB T c O H b1 x a ∧ RB T c O H b2 y b ∧ cmpW op a b = some k ∧ Q (.bl k) H
theorem eqW_some {a b : W} {k : Bool} (h : eqW a b = some k) : ∃ x y, a = .d x ∧ b = .d y ∧ shaped x = true ∧ shaped y = true ∧ k = PyData.eqv x y := by
  unfold eqW at h
  split at h
  · obtain ⟨⟨h1, h2⟩, h3⟩ := if_some h
    exact ⟨_, _, rfl, rfl, h1, h2, h3.symm⟩
  · cases h
theorem ord_of {op : Cop} {pins : List (Addr × Obj)} {s : Shared} {σ : L2.St} {x y : V} {v u : Value} {a b : W} {b1 b2 k : Bool} (ho : op = .lt ∨ op = .le ∨ op = .gt ∨ op = .ge) (hK : X.K = T.K) (hu : X.A.units + 64 < cLine)
    (I : Inv X pins σ H s) (rx : RelV x v) (ry : RelV y u) (ra : RB T c O H b1 x a) (rb : RB T c O H b2 y b) (h : ordW op a b = some k) (q : Q (.bl k) H) : wpAny (model X.prog X.w) X.A (compareOp (cmpOpOf op) v u) (EP X pins σ Q) X.xe s := by
  unfold ordW at h
  split at h
  · split at h
    · rename_i hs
      obtain ⟨h1, h2⟩ := hs
      obtain ⟨as, r1⟩ := Dp.reads I _ x v (by rw [hK]; exact ra.dp) rx
      obtain ⟨bs, r2⟩ := Dp.reads I _ y u (by rw [hK]; exact rb.dp) ry
      have R := rc_data op ho 64 _ _ k X.A s v u as bs (depth_of_shaped h1) h r1 r2 (canLay_of_shaped h1) (canLay_of_shaped h2) hu
      have R2 := R X.prog X.w X.xe (EP X pins σ Q) ⟨.bl k, H, I, rfl, q⟩
      rcases ho with rfl | rfl | rfl | rfl <;> exact R2
    · cases h
  · cases h
theorem in_of {pins : List (Addr × Obj)} {s : Shared} {σ : L2.St} {x y : V} {v u : Value} {a b : W} {b1 b2 k : Bool} (hK : X.K = T.K) (hu : X.A.units + 65 < cLine)
    (I : Inv X pins σ H s) (rx : RelV x v) (ry : RelV y u) (ra : RB T c O H b1 x a) (rb : RB T c O H b2 y b) (h : inW a b = some k) :
    (∀ Q : VK, Q (.bl k) H → wpAny (model X.prog X.w) X.A (compareOp .In v u) (EP X pins σ Q) X.xe s) ∧ (∀ Q : VK, Q (.bl (!k)) H → wpAny (model X.prog X.w) X.A (compareOp .NotIn v u) (EP X pins σ Q) X.xe s) := by
  unfold inW at h
  split at h
  · split at h
    · obtain ⟨⟨h1, h2⟩, h3⟩ := if_some h
      subst h3
      obtain ⟨as, r1⟩ := Dp.reads I _ x v (by rw [hK]; exact ra.dp) rx
      obtain ⟨bs, r2⟩ := Dp.reads I _ y u (by rw [hK]; exact rb.dp) ry
      exact ⟨fun Q q => SeqAt.in_list_reads r2 r1 (canLay_of_shaped h2) (canLay_of_shaped h1) (room_in_shaped h1 hu) ⟨.bl _, H, I, rfl, q⟩,
        fun Q q => SeqAt.notIn_list_reads r2 r1 (canLay_of_shaped h2) (canLay_of_shaped h1) (room_in_shaped h1 hu) ⟨.bl _, H, I, rfl, q⟩⟩
    · cases h
  · split at h
    · obtain ⟨⟨h1, h2⟩, h3⟩ := if_some h
      subst h3
      obtain ⟨as, r1⟩ := Dp.reads I _ x v (by rw [hK]; exact ra.dp) rx
      obtain ⟨bs, r2⟩ := Dp.reads I _ y u (by rw [hK]; exact rb.dp) ry
      rename_i ds _ _
      have h2' : PyData.canLayAll0 ds = true := by simpa [PyData.canLay0] using canLay_of_shaped h2
      exact ⟨fun Q q => SeqAt.in_tuple_reads r2 r1 h2' (canLay_of_shaped h1) (room_in_shaped h1 hu) ⟨.bl _, H, I, rfl, q⟩,
        fun Q q => SeqAt.notIn_tuple_reads r2 r1 h2' (canLay_of_shaped h1) (room_in_shaped h1 hu) ⟨.bl _, H, I, rfl, q⟩⟩
    · cases h
  · split at h
    · rename_i kvs _ key hk
      cases h
      have ex := keyW_rel hk ra
      obtain ⟨d, vs, e, hd, rk⟩ := rb.dk
      subst e
      cases ry
      have g : DGet H d x (valV vs key) := by rw [ex]; exact .inl ⟨vs, key, .inl hd, rfl, rfl⟩
      have hb : (findV kvs key).isSome = (valV vs key).isSome := by
        rcases rk.find key with ⟨q1, q2⟩ | ⟨_, _, q1, q2, _⟩ <;> rw [q1, q2] <;> rfl
      rw [hb]
      exact ⟨fun Q q => d_in (by omega) I g rx fun s3 I3 => ⟨.bl _, H, I3, rfl, q⟩, fun Q q => d_notIn (by omega) I g rx fun s3 I3 => ⟨.bl _, H, I3, rfl, q⟩⟩
    · cases h
  · cases h
theorem op_cmp (op : Cop) (hK : X.K = T.K) (hu : X.A.units + 65 < cLine) : OpR X (compareOp (cmpOpOf op)) (rCmp T op) := by
  intro pins s σ H x y v u Q I rx ry ⟨c, O, b1, b2, a, b, k, ra, rb, h, q⟩
  have eqs : ∀ {k}, eqW a b = some k → ∃ d e, Dp X.K H x d ∧ Dp X.K H y e ∧ shaped d = true ∧ shaped e = true ∧ k = PyData.eqv d e := fun h => by
    obtain ⟨d, e, rfl, rfl, h1, h2, h3⟩ := eqW_some h
    exact ⟨d, e, by rw [hK]; exact ra.dp, by rw [hK]; exact rb.dp, h1, h2, h3⟩
  cases op with
  | eq =>
    obtain ⟨d, e, h1, h2, h3, h4, rfl⟩ := eqs h
    exact op_eqD (by omega) pins s σ H x y v u Q I rx ry ⟨d, e, h1, h2, h3, h4, q⟩
  | ne =>
    have h : (eqW a b).map (! ·) = some k := h
    cases z : eqW a b with
    | none => rw [z] at h; cases h
    | some j =>
      rw [z] at h
      cases h
      obtain ⟨d, e, h1, h2, h3, h4, rfl⟩ := eqs z
      exact op_neD (by omega) pins s σ H x y v u Q I rx ry ⟨d, e, h1, h2, h3, h4, q⟩
  | lt => exact ord_of (T := T) (.inl rfl) hK (by omega) I rx ry ra rb h q
  | le => exact ord_of (T := T) (.inr (.inl rfl)) hK (by omega) I rx ry ra rb h q
  | gt => exact ord_of (T := T) (.inr (.inr (.inl rfl))) hK (by omega) I rx ry ra rb h q
  | ge => exact ord_of (T := T) (.inr (.inr (.inr rfl))) hK (by omega) I rx ry ra rb h q
  | isin => exact (in_of (T := T) hK hu I rx ry ra rb h).1 Q q
  | notin =>
    have h : (inW a b).map (! ·) = some k := h
    cases z : inW a b with
    | none => rw [z] at h; cases h
    | some j =>
      rw [z] at h
      cases h
      exact (in_of (T := T) hK hu I rx ry ra rb z).2 Q q

/-! ### subscripts -/
def rIxW (T : Stc) : R2 := fun x y H Q => ∃ c O b1 b2 a b w, At T c O H ∧ RB T c O H b1 x a ∧ RB T c O H b2 y b ∧ ixW a b = some w ∧ Ans T c O H w Q
theorem atI_rel {K : Frag} {G : Hp} {xs : List V} {ds : List PyData} {i : Int} {d : PyData} (r : RDs K G xs ds) (h : atI ds i = some d) : ∃ v, atI xs i = some v ∧ RD K G v d := by
  unfold atI at h ⊢
  rw [r.len]
  cases q : ixN ds.length i with
  | none => rw [q] at h; cases h
  | some j =>
    rw [q] at h
    exact r.get h
theorem ix_w (hK : X.K = T.K) (hu : X.A.units + 65 < cLine) : IxR X (rIxW T) := by
  intro value slice pins s σ H x y v u Q I rx ry ⟨c, O, b1, b2, a, b, w, e, ra, rb, h, an⟩ hs
  unfold ixW at h
  split at h
  · split at h
    · split at h
      · rename_i ha
        cases h
        obtain ⟨p, xs, e1, h1, r1⟩ := ra.lst
        obtain ⟨z, hz, rz⟩ := atI_rel r1 ha
        exact ix_list value slice pins s σ H x y v u Q I rx ry ⟨p, xs, _, z, e1, rb.int, .inl (.inl h1), hz, an.same (.d rz)⟩ hs
      · cases h
    · cases h
  · split at h
    · split at h
      · rename_i ha
        cases h
        obtain ⟨p, xs, e1, h1, r1⟩ := ra.tup
        obtain ⟨z, hz, rz⟩ := atI_rel r1 ha
        exact ix_tup value slice pins s σ H x y v u Q I rx ry ⟨p, xs, _, z, e1, rb.int, by rw [hK]; exact sqT_same hide_le h1, hz, an.same (.d rz)⟩ hs
      · cases h
    · cases h
  · split at h
    · split at h
      · rename_i hk _ _ hf
        cases h
        have ex := keyW_rel hk rb
        obtain ⟨d, vs, e1, hd, rk⟩ := ra.dk
        subst e1
        cases rx
        rcases rk.find _ with ⟨q1, _⟩ | ⟨z, w2, q1, q2, rz⟩
        · rw [hf] at q1; cases q1
        · rw [hf] at q1
          cases q1
          have g : DGet H d y (some z) := by rw [ex, ← q2]; exact .inl ⟨vs, _, .inl hd, rfl, rfl⟩
          exact tail_any (dict_typeIs I g) PySem.F.slot_dict_getitem.lookup (d_getItem (by omega) I g ry fun w' s3 I3 rw' => ⟨z, H, I3, rw', an.same rz⟩) hs
      · cases h
    · cases h
  · cases h

/-! ### parts -/
def rSlW (T : Stc) : V → Option Int → Option Int → Hp → VK → Prop := fun x lo hi H Q => ∃ c O b1 a w, At T c O H ∧ RB T c O H b1 x a ∧ slW a lo hi = some w ∧ Ans T c O H w Q
theorem cut_rel {K : Frag} {G : Hp} {xs : List V} {ds : List PyData} (lo hi : Option Int) (r : RDs K G xs ds) : RDs K G (cutV xs lo hi) (cutD ds lo hi) := by
  unfold cutV cutD
  rw [r.len]
  exact (r.drop _).take _
theorem cutD_all {ds : List PyData} {lo hi : Option Int} (h : HT.sIx ds.length 0 lo = 0 ∧ HT.sIx ds.length ds.length hi = ds.length) : cutD ds lo hi = ds := by
  unfold cutD
  rw [h.1, h.2]
  simp
theorem sl_w (hK : X.K = T.K) : SlR X (rSlW T) := by
  intro pins s σ H x v vl vu lo hi sl Q I rx hs pl pu ⟨c, O, b1, a, w, e, ra, h, an⟩
  unfold slW at h
  split at h
  · cases h
    obtain ⟨p, xs, e1, h1, r1⟩ := ra.lst
    exact sl_list pins s σ H x v vl vu lo hi sl Q I rx hs pl pu ⟨p, xs, e1, .inl (.inl h1), an.lst e (cut_rel lo hi r1)⟩
  · cases h
    obtain ⟨p, xs, e1, h1, r1⟩ := ra.tup
    refine sl_tupA pins s σ H x v vl vu lo hi sl Q I rx hs pl pu ⟨p, xs, e1, by rw [hK]; exact sqT_same hide_le h1, fun q => ?_, fun _ => an.tup e (cut_rel lo hi r1)⟩
    rw [r1.len] at q
    rw [cutD_all q] at an
    exact an.same (.d (.tup h1 r1))
  · cases h

/-! ### calls of built-ins -/
def rB1 (T : Stc) (f : W → Option W) : List V → Hp → VK → Prop := fun xs H Q => ∃ x c O b1 a w, xs = [x] ∧ At T c O H ∧ RB T c O H b1 x a ∧ f a = some w ∧ AnsF T c O H w Q
theorem RK.len {K : Frag} {fa : Nat → Addr} {G : Hp} : ∀ {kvs : List (Key × V)} {ws : List (Key × W)}, RK K fa c G kvs ws → kvs.length = ws.length
  | _, _, .nil => rfl
  | _, _, .cons _ t => congrArg (· + 1) (RK.len t)
theorem RK.keys {K : Frag} {fa : Nat → Addr} {G : Hp} : ∀ {kvs : List (Key × V)} {ws : List (Key × W)} {is : List Int}, RK K fa c G kvs ws → keysI ws = some is → kvs.map (·.1) = is.map Sum.inl
  | _, _, is, .nil, h => by cases h; rfl
  | _, _, is, .cons (k := k) (s := s) _ t, h => by
    unfold keysI at h
    cases k with
    | inl i =>
      simp only at h
      cases q : keysI s with
      | none => rw [q] at h; cases h
      | some js =>
        rw [q] at h
        cases h
        rw [List.map_cons, RK.keys t q]
        rfl
    | inr _ => cases h
theorem call_len_w (hK : X.K = T.K) : CallR X (.builtin "len") (rB1 T lenW) := by
  intro pins s σ H xs us Q I r ⟨x, c, O, b1, a, w, e0, e, ra, h, an⟩
  unfold lenW at h
  split at h
  · cases h
    obtain ⟨p, ys, e1, h1, r1⟩ := ra.lst
    exact call_len_seq pins s σ H xs us Q I r ⟨p, ys, by rw [e0, e1], .inl (.inl (.inl h1)), by rw [r1.len]; exact an.int⟩
  · cases h
    obtain ⟨p, ys, e1, h1, r1⟩ := ra.tup
    exact call_len_seq pins s σ H xs us Q I r ⟨p, ys, by rw [e0, e1], .inr (by rw [hK]; exact sqT_same hide_le h1), by rw [r1.len]; exact an.int⟩
  · cases h
    obtain ⟨p, ys, e1, h1, r1⟩ := ra.dk
    exact call_lenD pins s σ H xs us Q I r ⟨p, ys, by rw [e0, e1], h1, by rw [r1.len]; exact an.int⟩
  · cases h
theorem call_tuple_w (hK : X.K = T.K) : CallR X (.type "tuple") (rB1 T tupleW) := by
  intro pins s σ H xs us Q I r ⟨x, c, O, b1, a, w, e0, e, ra, h, an⟩
  unfold tupleW at h
  split at h
  · cases h
    obtain ⟨p, ys, e1, h1, r1⟩ := ra.lst
    exact call_tuple_of pins s σ H xs us Q I r ⟨p, ys, by rw [e0, e1], .inl ⟨.inl (.inl h1), an.tup e r1⟩⟩
  · cases h
    obtain ⟨p, ys, e1, h1, r1⟩ := ra.tup
    exact call_tuple_of pins s σ H xs us Q I r ⟨p, ys, by rw [e0, e1], .inr ⟨by rw [hK]; exact sqT_same hide_le h1, an.same rfl (.d (.tup h1 r1))⟩⟩
  · cases h
theorem call_list_w (hK : X.K = T.K) : CallR X (.type "list") (rB1 T listW) := by
  intro pins s σ H xs us Q I r ⟨x, c, O, b1, a, w, e0, e, ra, h, an⟩
  unfold listW at h
  split at h
  · cases h
    obtain ⟨p, ys, e1, h1, r1⟩ := ra.lst
    exact call_list_of pins s σ H xs us Q I r ⟨p, ys, by rw [e0, e1], .inl (.inl (.inl h1)), an.lst e r1⟩
  · cases h
    obtain ⟨p, ys, e1, h1, r1⟩ := ra.tup
    exact call_list_of pins s σ H xs us Q I r ⟨p, ys, by rw [e0, e1], .inr (by rw [hK]; exact sqT_same hide_le h1), an.lst e r1⟩
  · cases h
theorem call_int_w : CallR X (.type "int") (rB1 T intW) := by
  intro pins s σ H xs us Q I r ⟨x, c, O, b1, a, w, e0, e, ra, h, an⟩
  unfold intW at h
  split at h
  · cases h
    exact call_int1 pins s σ H xs us Q I r (.inl ⟨_, by rw [e0, ra.int], an.int⟩)
  · cases h
theorem call_sum_w (hc : X.calm = true) : CallR X (.builtin "sum") (rB1 T sumW) := by
  intro pins s σ H xs us Q I r ⟨x, c, O, b1, a, w, e0, e, ra, h, an⟩
  unfold sumW at h
  split at h
  · split at h
    · rename_i is hi
      cases h
      obtain ⟨p, ys, e1, h1, r1⟩ := ra.lst
      have e2 := r1.ints hi
      subst e2
      exact cr_sum hc pins s σ H xs us Q I r ⟨p, is, by rw [e0, e1], .inl (.inl h1), an.int⟩
    · cases h
  · cases h
theorem insI_perm (x : Int) : ∀ l : List Int, (insI x l).Perm (x :: l)
  | [] => .refl _
  | y :: ys => by
    unfold insI
    split
    · exact .refl _
    · exact ((insI_perm x ys).cons y).trans (.swap _ _ _)
theorem sortI_perm : ∀ l : List Int, (sortI l).Perm l
  | [] => .refl _
  | x :: xs => (insI_perm x (sortI xs)).trans ((sortI_perm xs).cons x)
theorem insI_sorted (x : Int) : ∀ l : List Int, l.Pairwise (· ≤ ·) → (insI x l).Pairwise (· ≤ ·)
  | [], _ => by simp [insI]
  | y :: ys, h => by
    unfold insI
    split
    · rename_i q
      refine List.pairwise_cons.mpr ⟨fun z hz => ?_, h⟩
      rcases List.mem_cons.mp hz with rfl | hz
      · exact q
      · exact Int.le_trans q ((List.pairwise_cons.mp h).1 z hz)
    · rename_i q
      refine List.pairwise_cons.mpr ⟨fun z hz => ?_, insI_sorted x ys (List.pairwise_cons.mp h).2⟩
      rcases List.mem_cons.mp ((insI_perm x ys).mem_iff.mp hz) with rfl | hz
      · omega
      · exact (List.pairwise_cons.mp h).1 z hz
theorem sortI_sorted : ∀ l : List Int, (sortI l).Pairwise (· ≤ ·)
  | [] => .nil
  | x :: xs => insI_sorted x _ (sortI_sorted xs)
theorem sorted_uniq : ∀ {l m : List Int}, l.Pairwise (· ≤ ·) → m.Pairwise (· ≤ ·) → l.Perm m → l = m
  | [], m, _, _, p => by simpa using p.symm
  | x :: xs, [], _, _, p => by simp at p
  | x :: xs, y :: ys, h, k, p => by
    have e : x = y := by
      have h1 := (List.pairwise_cons.mp h).1
      have k1 := (List.pairwise_cons.mp k).1
      have hy : y ∈ x :: xs := p.mem_iff.mpr List.mem_cons_self
      have hx : x ∈ y :: ys := p.mem_iff.mp List.mem_cons_self
      rcases List.mem_cons.mp hy with q | q
      · exact q.symm
      · rcases List.mem_cons.mp hx with q2 | q2
        · exact q2
        · have a1 := h1 y q
          have a2 := k1 x q2
          omega
    subst e
    rw [sorted_uniq (List.pairwise_cons.mp h).2 (List.pairwise_cons.mp k).2 ((List.perm_cons x).mp p)]
theorem sortI_eq {l m : List Int} (p : m.Perm l) (s : m.Pairwise (· ≤ ·)) : m = sortI l := sorted_uniq s (sortI_sorted l) (p.trans (sortI_perm l).symm)
theorem call_sorted_w (hc : X.calm = true) : CallR X (.builtin "sorted") (rB1 T sortedW) := by
  intro pins s σ H xs us Q I r ⟨x, c, O, b1, a, w, e0, e, ra, h, an⟩
  unfold sortedW at h
  split at h
  · split at h
    · rename_i is hi
      cases h
      obtain ⟨p, ys, e1, h1, r1⟩ := ra.lst
      have e2 := r1.ints hi
      subst e2
      refine cr_sortedI pins s σ H xs us Q I r ⟨p, is, by rw [e0, e1], .inl (.inl h1), fun ns' p' hp hs hn => ?_⟩
      rw [sortI_eq hp hs]
      exact an.lst e (.of_ints _) p' hn
    · cases h
  · split at h
    · rename_i is hi
      obtain ⟨h64, h⟩ := if_some h
      cases h
      obtain ⟨p, ys, e1, h1, r1⟩ := ra.dk
      refine call_sortedDI hc pins s σ H xs us Q I r ⟨p, ys, is, by rw [e0, e1], .inl h1, r1.keys hi, h64, fun ns' p' hp hs hn => ?_⟩
      rw [sortI_eq hp hs]
      exact an.lst e (.of_ints _) p' hn
    · cases h
  · cases h

/-! ### isinstance -/
def tyN : Ty → String
  | .int => "int"
  | .bool => "bool"
  | .str => "str"
  | .tuple => "tuple"
  | .list => "list"
def rIsi (T : Stc) (t : Ty) : List V → Hp → VK → Prop := fun xs H Q => ∃ x c O b1 a k, xs = [x, .ty (tyN t)] ∧ RB T c O H b1 x a ∧ isiW a t = some k ∧ Q (.bl k) H
theorem clsV_ty (t : Ty) : ClsV (.ty (tyN t)) (.type (tyN t)) := by
  cases t <;> first | exact rfl | exact ⟨_, rfl⟩ | constructor
theorem call_isi_w (t : Ty) (hK : X.K = T.K) : CallR X (.builtin "isinstance") (rIsi T t) := by
  intro pins s σ H xs us Q I r ⟨x, c, O, b1, a, k, e0, ra, h, q⟩
  subst e0
  have go : ∀ {u : String}, TyX X.K H x (.type u) → kitB u (tyN t) = some k → wpAny (model X.prog X.w) X.A (call (.builtin "isinstance") us) (EP X pins σ Q) X.xe s := fun hu hk =>
    call_isi pins s σ H [x, .ty (tyN t)] us Q I r ⟨x, .ty (tyN t), _, _, k, rfl, clsV_ty t, hu, kit_ty hk, q⟩
  unfold isiW at h
  split at h
  · cases h
    have ex : x = .non := by
      rcases ra with ra | ⟨_, _, _, _, _, _, o⟩
      · cases ra with | d ra => cases ra; rfl
      · cases o
    subst ex
    exact go (.base .non) (by cases t <;> decide +kernel)
  · cases h
    have ex := ra.bool
    subst ex
    exact go (.base (.bl _)) (by cases t <;> decide +kernel)
  · cases h
    have ex := ra.int
    subst ex
    exact go (.base (.int _)) (by cases t <;> decide +kernel)
  · cases h
    obtain ⟨z, ex⟩ : ∃ z, x = .str z := by
      rcases ra with ra | ⟨_, _, _, _, _, _, o⟩
      · cases ra with | d ra => cases ra; exact ⟨_, rfl⟩
      · cases o
    subst ex
    exact go (.base (.str _)) (by cases t <;> decide +kernel)
  · cases h
    obtain ⟨p, ys, e1, h1, r1⟩ := ra.tup
    subst e1
    rcases h1 with (h1 | ⟨o, h1⟩) | ⟨o, its, n, h1, h2, _⟩
    · exact go (.base (.tup (hide_le _ _ h1))) (by cases t <;> decide +kernel)
    · exact go (.fTuple (hide_le _ _ h1)) (by cases t <;> decide +kernel)
    · exact go (.kTuple (by rw [hK]; exact h1) h2) (by cases t <;> decide +kernel)
  · cases h
    obtain ⟨p, ys, e1, h1, r1⟩ := ra.lst
    subst e1
    exact go (.base (.lst h1)) (by cases t <;> decide +kernel)
  · cases h
end
end DS

set_option Elab.async false
set_option linter.all false
set_option maxRecDepth 100000
set_option maxHeartbeats 4000000
/-! DS5: what a def promises; what stands around; calls. -/
namespace DS
open PySem PySem.Spec PySem.SeqAt PyProof.Rows L2

/-! ### promises, with nothing being shown (repr) around -/
structure FnG (P : Program) (w : World) (K : Frag) (mg : Str → Option Value) (base : Heap) (k : Nat) (f : Addr) (fd : FuncData) (ps : List Str) (sp : Sp) : Prop where
  len : ∀ vs H Q E, sp vs H Q E → vs.length = ps.length
  run : ∀ (A : Around) (outer : List PySem.Env) (s : Shared) (H : Hp) (args : Args) (us : List Value) (vs : List V) (Q : VK) (E : XK), Room k A → A.guards = some [] → Env0 P w K mg base A outer s H →
    BindsTo s fd args (ps.zip us) → Vals vs us → sp vs H Q E → codeAny (model P w) A (.call (.ref f) args) (CR (L2.CX P w) outer P w H s Q E) s
theorem FnG.mono {P : Program} {w : World} {K : Frag} {mg : Str → Option Value} {base : Heap} {j k : Nat} {f : Addr} {fd : FuncData} {ps : List Str} {sp : Sp} (F : FnG P w K mg base j f fd ps sp) (h : j ≤ k) : FnG P w K mg base k f fd ps sp :=
  ⟨F.len, fun A outer s H args us vs Q E hr hg => F.run A outer s H args us vs Q E (hr.mono h) hg⟩
theorem FnG.imp {P : Program} {w : World} {K : Frag} {mg : Str → Option Value} {base : Heap} {k : Nat} {f : Addr} {fd : FuncData} {ps : List Str} {sp sp' : Sp} (F : FnG P w K mg base k f fd ps sp) (h : ∀ vs H Q E, sp' vs H Q E → sp vs H Q E) :
    FnG P w K mg base k f fd ps sp' :=
  ⟨fun vs H Q E q => F.len vs H Q E (h _ _ _ _ q), fun A outer s H args us vs Q E hr hg e0 hb hv hs => F.run A outer s H args us vs Q E hr hg e0 hb hv (h _ _ _ _ hs)⟩
theorem FnG.ok {P : Program} {w : World} {K : Frag} {mg : Str → Option Value} {base : Heap} {k : Nat} {f : Addr} {fd : FuncData} {ps : List Str} {sp : Sp} (F : FnOk P w K mg base (L2.CX P w) k f fd ps sp) : FnG P w K mg base k f fd ps sp :=
  ⟨F.len, fun A outer s H args us vs Q E hr _ => F.run A outer s H args us vs Q E hr⟩
def spM (T : Stc) (n : Nat) (F : List W → M W) : Sp := fun vs H Q E => vs.length = n ∧ ∃ c N O ws, c.sa ∈ O ∧ c.la ∈ O ∧ (∀ b ∈ O, ∃ o, H b = some o) ∧ StOk c N H ∧ RWs T.K T.fa c (hide O H) vs ws ∧
  (F ws).wp N (Fin T c O H false Q) (EX T E c O H)

/-- how the values of a call with names come to the parameters -/
def KwOk (K : Frag) (fd : FuncData) (ps : List Str) (np : Nat) (ks : List Str) (perm : List Nat) : Prop :=
  perm.length = ps.length ∧ ∀ (s : Shared) (us : List Value), K.In s.heap → us.length = np + ks.length → BindsTo s fd ⟨us.take np, ks.zip (us.drop np)⟩ (ps.zip (perm.map fun i => us.getD i .none))

def bnames : List Str := ["len", "tuple", "list", "sorted", "sum", "int", "range", "isinstance", "bool", "str", "enumerate", "zip", "reversed", "set", "dict", "repr", "ValueError"]
/-- the defs and constants of the text -/
structure TOk (T : Stc) (kw : List (Nat × Nat × List Str × List Nat)) : Prop where
  fns : ∀ (i : Nat) (x : Str), T.fn[i]? = some x → ∃ F n fd ps, T.fs[i]? = some F ∧ T.mg x = some (.ref (T.fa i)) ∧ PySem.W.keepIn T.K (.ref (T.fa i)) = true ∧ Binds T.K fd ps [] ∧ ps.length = n ∧
    FnG T.P T.w T.K T.mg T.base T.k (T.fa i) fd ps (spM T n F) ∧ (∀ ws N Q E, (F ws).wp N Q E → ws.length = n) ∧ ∀ q ∈ kw, q.1 = i → KwOk T.K fd ps q.2.1 q.2.2.1 q.2.2.2
  gls : ∀ (j : Nat) (x : Str), T.gn[j]? = some x → ∃ w u v, T.gs[j]? = some w ∧ T.mg x = some u ∧ RelV v u ∧ ∀ c G, RW T.K T.fa c G v w
  bn : ∀ x ∈ bnames, T.mg x = none
  ln : T.fn.length = T.fs.length

/-- the text's place in a def's body or a comprehension's block -/
structure XOk (T : Stc) (N : List Str) (sc : Scope) (F : Str → Bool) (Ex : XK) (X : Cx) : Prop where
  hP : X.prog = T.P
  hw : X.w = T.w
  hK : X.K = T.K
  hmg : X.mg = T.mg
  hbase : X.base = T.base
  hN : X.N = N
  hsc : X.env.scope = sc
  calm : X.calm = true
  nd : N.Nodup
  room : Room T.k X.A
  gd : X.A.guards = some []
  hfn : X.fn = F
  pas : Passes (L2.CX X.prog X.w) X Ex
theorem XOk.hu {T : Stc} {N : List Str} {sc : Scope} {F : Str → Bool} {Ex : XK} {X : Cx} (x : XOk T N sc F Ex X) : X.A.units + 65 < cLine := by have := x.room.un; omega

section
variable {X : Cx} {k : Nat} {f : Addr} {fd : FuncData} {ps ks : List Str} {sp : Sp} {E : XK} {x : Str} {p pos : Pos} {e : Expr} {es : List Expr} {t tk : TA} {kws : List Keyword}
/-- the callee runs -/
theorem run_fnG {pins : List (Addr × Obj)} {σ : L2.St} {H : Hp} {s : Shared} {Q : VK} {args : Args} {us : List Value} {vs : List V} (F : FnG X.prog X.w X.K X.mg X.base k f fd ps sp) (hr : Room k X.A) (hg : X.A.guards = some [])
    (hx : Passes (L2.CX X.prog X.w) X E) (hb : BindsTo s fd args (ps.zip us)) (I : Inv X pins σ H s) (r : Vals vs us) (h : sp vs H Q E) : wpAny (model X.prog X.w) X.A (call (.ref f) args.pos args.kw) (EP X pins σ Q) X.xe s := by
  refine wpAny_call (codeAny_mono (F.run X.A X.stack s H args us vs Q E hr hg I.env0 hb r h) fun r s' hq => ?_)
  match r, hq with
  | .error e, hq => exact hx pins σ H s e s' I hq
  | .ok (.ret u), hq => exact I.after hq
  | .ok .next, hq => exact False.elim hq
  | .ok .brk, hq => exact False.elim hq
  | .ok .cont, hq => exact False.elim hq
def tCG (sp : Sp) (E : XK) (t : TA) : TE := fun σ H Q => t σ H fun vs H1 => sp vs H1 Q E
theorem pe_cG (F : FnG X.prog X.w X.K X.mg X.base k f fd ps sp) (hr : Room k X.A) (hgd : X.A.guards = some []) (hg : Gl X x) (hm : X.mg x = some (.ref f)) (hk : PySem.W.keepIn X.K (.ref f) = true) (hb : Binds X.K fd ps [])
    (hx : Passes (L2.CX X.prog X.w) X E) (ha : PA X (e :: es) t) (hdb : (x == ("__debug__" : Str)) = false) (he : starEach (e :: es) X.env = (false, eval e X.env) :: starEach es X.env) (hpl : (backTo pos (starEach es X.env)).any (·.1) = false) :
    PE X (.Call (.Name x p) (e :: es) [] pos) (tCG sp E t) := ⟨fun pins s σ H Q I h => wpAny_Call_Name_kw (ld_glob I hg hm (PySem.W.callWith_K (h₀ := X.base) I.ok.mod.kin hk
      (thn (ha.run pos pins s σ H _ I h) fun us s1 ⟨vs, H1, I1, r, q⟩ => ⟨I1.kIn, by
        have hl : us.length = ps.length := by rw [← r.length]; exact F.len _ _ _ _ q
        have b := hb s1 us I1.kIn (by simpa using hl)
        rw [List.append_nil] at b
        exact run_fnG (args := ⟨us, []⟩) F hr hgd hx b I1 r q⟩) he hpl) hdb)⟩
theorem pe_cG0 (F : FnG X.prog X.w X.K X.mg X.base k f fd ps sp) (hr : Room k X.A) (hgd : X.A.guards = some []) (hg : Gl X x) (hm : X.mg x = some (.ref f)) (hk : PySem.W.keepIn X.K (.ref f) = true) (hb : Binds X.K fd ps [])
    (hx : Passes (L2.CX X.prog X.w) X E) (hdb : (x == ("__debug__" : Str)) = false) :
    PE X (.Call (.Name x p) [] [] pos) (tCG sp E tNil) := ⟨fun pins s σ H Q I h => wpAny_Call_Name_kw (ld_glob I hg hm (PySem.W.callWith_K0 I.kIn hk (by
        have hl : ps.length = 0 := (F.len _ _ _ _ h).symm
        have b := hb s [] I.kIn (by simpa using hl.symm)
        exact run_fnG (args := ⟨[], []⟩) (us := []) F hr hgd hx b I .nil h)) hdb)⟩
/-- a call of a name of the def's own that holds a def -/
def tCGL (i : Nat) (f : Addr) (sp : Sp) (E : XK) (t : TA) : TE := fun σ H Q => σ[i]? = some (some (.ref f)) ∧ t σ H fun vs H1 => sp vs H1 Q E
theorem pe_cGL {i : Nat} (F : FnG X.prog X.w X.K X.mg X.base k f fd ps sp) (hr : Room k X.A) (hgd : X.A.guards = some []) (hN : X.N[i]? = some x) (hv : Vis X.env.scope x) (hk : PySem.W.keepIn X.K (.ref f) = true) (hb : Binds X.K fd ps [])
    (hx : Passes (L2.CX X.prog X.w) X E) (ha : PA X (e :: es) t) (hdb : (x == ("__debug__" : Str)) = false) (hcd : (x == ("__classdict__" : Str)) = false) (he : starEach (e :: es) X.env = (false, eval e X.env) :: starEach es X.env)
    (hpl : (backTo pos (starEach es X.env)).any (·.1) = false) : PE X (.Call (.Name x p) (e :: es) [] pos) (tCGL i f sp E t) := by
  refine ⟨fun pins s σ H Q I h => ?_⟩
  obtain ⟨hs, ht⟩ := h
  have hv1 := (pe_var (pos := p) hN hv hdb hcd).run pins s σ H (fun v H1 => v = .ref f ∧ H1 = H) I ⟨.ref f, hs, rfl, rfl⟩
  refine wpAny_Call_Name_kw (thn hv1 fun u s1 hq => ?_)
  obtain ⟨v, H1, I1, r1, rfl, rfl⟩ := hq
  cases r1
  refine PySem.W.callWith_K (h₀ := X.base) I.ok.mod.kin hk (thn (ha.run pos pins s1 σ _ _ I1 ht) fun us s2 hq => ?_) he hpl
  obtain ⟨vs, H2, I2, r, q⟩ := hq
  have hl : us.length = ps.length := by rw [← r.length]; exact F.len _ _ _ _ q
  have b := hb s2 us I2.kIn (by simpa using hl)
  rw [List.append_nil] at b
  exact ⟨I2.kIn, run_fnG (args := ⟨us, []⟩) F hr hgd hx b I2 r q⟩
/-- with names -/
def tCGK (sp : Sp) (perm : List Nat) (np : Nat) (E : XK) (t tk : TA) : TE := fun σ H Q => t σ H fun vs H1 => tk σ H1 fun zs H2 => vs.length = np ∧ sp (perm.map fun i => (vs ++ zs).getD i .non) H2 Q E
theorem vals_getD {xs : List V} {us : List Value} (r : Vals xs us) (i : Nat) : RelV (xs.getD i .non) (us.getD i .none) := by
  cases h : xs[i]? with
  | none =>
    have h2 := r.none_of h
    rw [List.getD_eq_getElem?_getD, List.getD_eq_getElem?_getD, h, h2]
    rfl
  | some v =>
    obtain ⟨u, hu, ru⟩ := r.get h
    rw [List.getD_eq_getElem?_getD, List.getD_eq_getElem?_getD, h, hu]
    exact ru
theorem vals_perm {xs : List V} {us : List Value} (r : Vals xs us) : ∀ perm : List Nat, Vals (perm.map fun i => xs.getD i .non) (perm.map fun i => us.getD i .none)
  | [] => .nil
  | i :: is => .cons (vals_getD r i) (vals_perm r is)
theorem zip_take_drop {us ws : List Value} {np : Nat} (h : us.length = np) : (us ++ ws).take np = us ∧ (us ++ ws).drop np = ws := by
  subst h
  exact ⟨by simp, by simp⟩
theorem pe_cGK {np : Nat} {perm : List Nat} (F : FnG X.prog X.w X.K X.mg X.base k f fd ps sp) (hr : Room k X.A) (hgd : X.A.guards = some []) (hg : Gl X x) (hm : X.mg x = some (.ref f)) (hk : PySem.W.keepIn X.K (.ref f) = true)
    (hb : KwOk X.K fd ps np ks perm) (hx : Passes (L2.CX X.prog X.w) X E) (ha : PA X (e :: es) t) (hkw : PK X kws tk) (hall : (backToKw pos (keywordEach kws X.env)).all (·.1.isSome) = true) (hks : (backToKw pos (keywordEach kws X.env)).filterMap (·.1) = ks)
    (hlen : ∀ ws : List Value, ws.length = kws.length → ks.length = ws.length) (hdb : (x == ("__debug__" : Str)) = false) (he : starEach (e :: es) X.env = (false, eval e X.env) :: starEach es X.env)
    (hpl : ((backTo pos (starEach (e :: es) X.env)).any (·.1) || (backToKw pos (keywordEach kws X.env)).any (·.1.isNone)) = false) (hzl : ∀ σ H Q, tk σ H Q → tk σ H fun zs H' => zs.length = kws.length ∧ Q zs H') :
    PE X (.Call (.Name x p) (e :: es) kws pos) (tCGK sp perm np E t tk) := by
  refine ⟨fun pins s σ H Q I h => wpAny_Call_Name_kw (ld_glob I hg hm ?_ hdb)⟩
  refine PySem.W.callWith_KW (h₀ := X.base) I.ok.mod.kin hk hall (thn (ha.run pos pins s σ H _ I h) fun us s1 hq => ?_) hpl he
  obtain ⟨vs, H1, I1, r, q⟩ := hq
  refine thn (hkw.run pos pins s1 σ H1 _ I1 (hzl _ _ _ q)) fun ws s2 hq => ?_
  obtain ⟨zs, H2, I2, rz, hz, hn, q2⟩ := hq
  refine ⟨I2.kIn, ?_⟩
  rw [hks]
  have r2 := r.append rz
  have hu : us.length = np := by rw [← r.length]; exact hn
  have hw : ks.length = ws.length := hlen ws (by rw [← rz.length]; exact hz)
  have b := hb.2 s2 (us ++ ws) I2.kIn (by rw [List.length_append, hu, hw])
  obtain ⟨z1, z2⟩ := zip_take_drop (ws := ws) hu
  rw [z1, z2] at b
  exact run_fnG (args := ⟨us, ks.zip ws⟩) F hr hgd hx b I2 (vals_perm r2 perm) q2
theorem pe_cGK0 {perm : List Nat} (F : FnG X.prog X.w X.K X.mg X.base k f fd ps sp) (hr : Room k X.A) (hgd : X.A.guards = some []) (hg : Gl X x) (hm : X.mg x = some (.ref f)) (hk : PySem.W.keepIn X.K (.ref f) = true)
    (hb : KwOk X.K fd ps 0 ks perm) (hx : Passes (L2.CX X.prog X.w) X E) (hkw : PK X kws tk) (hall : (backToKw pos (keywordEach kws X.env)).all (·.1.isSome) = true) (hks : (backToKw pos (keywordEach kws X.env)).filterMap (·.1) = ks)
    (hlen : ∀ ws : List Value, ws.length = kws.length → ks.length = ws.length) (hdb : (x == ("__debug__" : Str)) = false)
    (hpl : ((backTo pos (starEach [] X.env)).any (·.1) || (backToKw pos (keywordEach kws X.env)).any (·.1.isNone)) = false) (hzl : ∀ σ H Q, tk σ H Q → tk σ H fun zs H' => zs.length = kws.length ∧ Q zs H') :
    PE X (.Call (.Name x p) [] kws pos) (tCGK sp perm 0 E tNil tk) := by
  refine ⟨fun pins s σ H Q I h => wpAny_Call_Name_kw (ld_glob I hg hm ?_ hdb)⟩
  have h : tk σ H fun zs H2 => ([] : List V).length = 0 ∧ sp (perm.map fun i => ([] ++ zs).getD i .non) H2 Q E := h
  refine PySem.W.callWith_KW0 (h₀ := X.base) I.ok.mod.kin hk hall (thn (hkw.run pos pins s σ H _ I (hzl _ _ _ h)) fun ws s2 hq => ?_) hpl
  obtain ⟨zs, H2, I2, rz, hz, hn, q2⟩ := hq
  refine ⟨I2.kIn, ?_⟩
  rw [hks]
  have hw : ks.length = ws.length := hlen ws (by rw [← rz.length]; exact hz)
  have b := hb.2 s2 ws I2.kIn (by rw [hw, Nat.zero_add])
  exact run_fnG (args := ⟨[], ks.zip ws⟩) F hr hgd hx b I2 (vals_perm rz perm) q2
end
end DS

set_option Elab.async false
set_option linter.all false
set_option autoImplicit false
set_option maxRecDepth 100000
set_option maxHeartbeats 4000000
/-! DS6: the text is the small language's (chk). -/
namespace DS
open PySem PySem.Spec PySem.SeqAt PyProof.Rows L2

structure Ct where
  N : List Str
  fn : List Str
  gn : List Str
  kw : List (Nat × Nat × List Str × List Nat)

def visB (sc : Scope) (x : Str) : Bool := match sc.names.lookup x with
  | some .local => true
  | some .cell => true
  | some .free => true
  | _ => false
theorem visB_ok {sc : Scope} {x : Str} (h : visB sc x = true) : Vis sc x := by
  unfold visB at h
  split at h
  · exact .inl (by assumption)
  · exact .inr (.inl (by assumption))
  · exact .inr (.inr (by assumption))
  · cases h
def locB (sc : Scope) (F : Str → Bool) (x : Str) : Bool := match sc.names.lookup x with
  | some .local => true
  | some .cell => F x
  | _ => false
theorem locB_ok {sc : Scope} {F : Str → Bool} {x : Str} (h : locB sc F x = true) : Loc sc x ∧ (F x = true ∨ sc.names.lookup x = some .local) := by
  unfold locB at h
  split at h
  · exact ⟨.inl (by assumption), .inr (by assumption)⟩
  · exact ⟨.inr (by assumption), .inl h⟩
  · cases h
def glB (sc : Scope) (x : Str) : Bool := decide (sc.names.lookup x = some .globalImplicit) && !(x == ("__debug__" : Str))
theorem glB_ok {sc : Scope} {x : Str} (h : glB sc x = true) : sc.names.lookup x = some .globalImplicit ∧ (x == ("__debug__" : Str)) = false := by
  unfold glB at h
  simpa using h
def nameB (ct : Ct) (sc : Scope) (i : Nat) (x : Str) : Bool := decide (ct.N[i]? = some x) && visB sc x && !(x == ("__debug__" : Str)) && !(x == ("__classdict__" : Str))
def star : Expr → Bool
  | .Starred _ _ => true
  | _ => false
theorem star_each {e : Expr} {es : List Expr} {env : PySem.Env} (h : star e = false) : starEach (e :: es) env = (false, eval e env) :: starEach es env := by
  cases e <;> first | rfl | cases h
theorem star_any {pos : Pos} {env : PySem.Env} : ∀ {es : List Expr}, (∀ e ∈ es, star e = false) → (backTo pos (starEach es env)).any (·.1) = false
  | [], _ => rfl
  | e :: es, h => by
    rw [star_each (h e List.mem_cons_self)]
    show (false || (backTo pos (starEach es env)).any (·.1)) = false
    rw [Bool.false_or]
    exact star_any fun x hx => h x (List.mem_cons_of_mem _ hx)
def tyX (sc : Scope) (t : Ty) : Expr → Bool
  | .Name x _ => decide (x = Str.ofString (tyN t)) && glB sc x
  | _ => false
def b1N : B1 → Str
  | .len => "len"
  | .tuple => "tuple"
  | .list => "list"
  | .sorted => "sorted"
  | .sum => "sum"
  | .int => "int"
  | .listRange => "list"
def isSl : Expr → Bool
  | .Slice _ _ _ _ => true
  | _ => false

mutual
def chkTg (ct : Ct) (sc : Scope) (F : Str → Bool) : Tg → Expr → Bool
  | .n i, pe => match pe with
    | .Name x _ => decide (ct.N[i]? = some x) && locB sc F x
    | _ => false
  | .t ts, pe => match pe with
    | .Tuple ps _ _ => chkTgs ct sc F ts ps
    | _ => false
def chkTgs (ct : Ct) (sc : Scope) (F : Str → Bool) : TgL → List Expr → Bool
  | .nil, ps => match ps with
    | [] => true
    | _ => false
  | .cons g gs, ps => match ps with
    | p :: ps => chkTg ct sc F g p && chkTgs ct sc F gs ps
    | [] => false
end
def ownOf (ct : Ct) : List Nat → List (Str × Nat)
  | [] => []
  | i :: is => (ct.N.getD i "", i) :: ownOf ct is
def kwNames : List Keyword → List Str
  | [] => []
  | ⟨some x, _, _⟩ :: r => x :: kwNames r
  | ⟨none, _, _⟩ :: r => kwNames r
def kwAll : List Keyword → Bool
  | [] => true
  | ⟨some _, _, _⟩ :: r => kwAll r
  | ⟨none, _, _⟩ :: _ => false
def kwEs : List Keyword → List Expr
  | [] => []
  | ⟨_, e, _⟩ :: r => e :: kwEs r
def isTup : Expr → Bool
  | .Tuple _ _ _ => true
  | _ => false
mutual
def chkE (ct : Ct) (sc : Scope) : E → Expr → Bool
  | .v i, pe => match pe with
    | .Name x _ => nameB ct sc i x
    | _ => false
  | .non, pe => match pe with
    | .Constant .none _ _ => true
    | _ => false
  | .bl b, pe => match pe with
    | .Constant (.bool c) _ _ => b == c
    | _ => false
  | .int i, pe => match pe with
    | .Constant (.int j) _ _ => decide (i = j)
    | _ => false
  | .str s, pe => match pe with
    | .Constant (.str z) _ _ => decide (s = z)
    | _ => false
  | .gl j, pe => match pe with
    | .Name x _ => decide (ct.gn[j]? = some x) && glB sc x
    | _ => false
  | .fn f, pe => match pe with
    | .Name x _ => decide (ct.fn[f]? = some x) && glB sc x
    | _ => false
  | .tup es, pe => match pe with
    | .Tuple ps _ _ => chkL ct sc es ps && decide (es.len ≤ 1000)
    | _ => false
  | .lst es, pe => match pe with
    | .List ps _ => chkL ct sc es ps && decide (es.len ≤ 1000)
    | _ => false
  | .dnew, pe => match pe with
    | .Dict [] [] _ => true
    | _ => false
  | .bin op a b, pe => match pe with
    | .BinOp x o y _ => decide (bopOf op = o) && chkE ct sc a x && chkE ct sc b y
    | _ => false
  | .neg a, pe => match pe with
    | .UnaryOp .USub x _ => chkE ct sc a x
    | _ => false
  | .cmp op a b, pe => match pe with
    | .Compare x [o] [y] _ => decide (cmpOpOf op = o) && chkE ct sc a x && chkE ct sc b y
    | _ => false
  | .chain p q a b c, pe => match pe with
    | .Compare x [o1, o2] [y, z] _ => decide (cmpOpOf p = o1) && decide (cmpOpOf q = o2) && chkE ct sc a x && chkE ct sc b y && chkE ct sc c z
    | _ => false
  | .isN a, pe => match pe with
    | .Compare x [.Is] [.Constant .none _ _] _ => chkE ct sc a x
    | _ => false
  | .notN a, pe => match pe with
    | .Compare x [.IsNot] [.Constant .none _ _] _ => chkE ct sc a x
    | _ => false
  | .bop conj es, pe => match pe with
    | .BoolOp o ps _ => decide (o = if conj = true then .And else .Or) && chkL ct sc es ps && !(ps.isEmpty)
    | _ => false
  | .not a, pe => match pe with
    | .UnaryOp .Not x _ => chkE ct sc a x
    | _ => false
  | .ite c a b, pe => match pe with
    | .IfExp z x y _ => chkE ct sc c z && chkE ct sc a x && chkE ct sc b y
    | _ => false
  | .ix a i, pe => match pe with
    | .Subscript x y _ => chkE ct sc a x && chkE ct sc i y && !(isSl y)
    | _ => false
  | .sl a lo hi, pe => match pe with
    | .Subscript x (.Slice l h none _) _ => chkE ct sc a x && (match l with
        | none => chkL ct sc lo []
        | some y => chkL ct sc lo [y]) && (match h with
        | none => chkL ct sc hi []
        | some y => chkL ct sc hi [y])
    | _ => false
  | .call f es, pe => match pe with
    | .Call (.Name x _) ps [] _ => decide (ct.fn[f]? = some x) && glB sc x && chkL ct sc es ps
    | _ => false
  | .callk f np ks perm es, pe => match pe with
    | .Call (.Name x _) ps kws _ => decide (ct.fn[f]? = some x) && glB sc x && decide ((f, np, ks, perm) ∈ ct.kw) && decide (kwNames kws = ks) && kwAll kws && decide (ps.length = np) && chkL ct sc es (ps ++ kwEs kws) && !(kws.isEmpty)
    | _ => false
  | .callv i es, pe => match pe with
    | .Call (.Name x _) ps [] _ => nameB ct sc i x && chkL ct sc es ps && !(ps.isEmpty)
    | _ => false
  | .b1 b a, pe => match pe with
    | .Call (.Name x _) [y] [] _ => decide (x = b1N b) && glB sc x && (if b = .listRange then (match y with
        | .Call (.Name z _) [u] [] _ => decide (z = "range") && glB sc z && chkE ct sc a u
        | _ => false) else chkE ct sc a y)
    | _ => false
  | .isi a t, pe => match pe with
    | .Call (.Name x _) [y, z] [] _ => decide (x = "isinstance") && glB sc x && chkE ct sc a y && tyX sc t z
    | _ => false
  | .comp tg it cs elt, pe => match pe with
    | .ListComp pelt [⟨ptg, pit, ifs, a⟩] scope _ => decide (a = 0) && chkI ct sc it ptg pit && chkTg ct (relS scope sc) (fun x => scope.names.lookup x == some .cell) tg ptg && chkL ct (relS scope sc) cs ifs && decide (cs.len ≤ 1) &&
        chkE ct (relS scope sc) elt pelt && blkC ct.N sc scope (ownOf ct tg.is)
    | _ => false
def chkL (ct : Ct) (sc : Scope) : EL → List Expr → Bool
  | .nil, ps => match ps with
    | [] => true
    | _ => false
  | .cons e es, ps => match ps with
    | p :: ps => chkE ct sc e p && chkL ct sc es ps
    | _ => false
def chkI (ct : Ct) (sc : Scope) : It → Expr → Expr → Bool
  | .of a, _, pe => chkE ct sc a pe && !(star pe) && (match pe with
    | .Set _ _ _ => false
    | _ => true)
  | .rng1 a, _, pe => match pe with
    | .Call (.Name x _) [y] [] _ => decide (x = "range") && glB sc x && chkE ct sc a y
    | _ => false
  | .rng2 a b, _, pe => match pe with
    | .Call (.Name x _) [y, z] [] _ => decide (x = "range") && glB sc x && chkE ct sc a y && chkE ct sc b z
    | _ => false
  | .enum a, tg, pe => match pe with
    | .Call (.Name x _) [y] [] _ => decide (x = "enumerate") && glB sc x && chkE ct sc a y && isTup tg
    | _ => false
  | .zip a b, tg, pe => match pe with
    | .Call (.Name x _) [y, z] [] _ => decide (x = "zip") && glB sc x && chkE ct sc a y && chkE ct sc b z && isTup tg
    | _ => false
  | .rev a, _, pe => match pe with
    | .Call (.Name x _) [y] [] _ => decide (x = "reversed") && glB sc x && chkE ct sc a y
    | _ => false
end
/-- what is checked is no star -/
theorem chk_star {ct : Ct} {sc : Scope} {e : E} {pe : Expr} (h : chkE ct sc e pe = true) : star pe = false := by
  cases pe <;> first | rfl | (cases e <;> simp [chkE] at h)
theorem chkL_star {ct : Ct} {sc : Scope} : ∀ {es : EL} {ps : List Expr}, chkL ct sc es ps = true → ∀ p ∈ ps, star p = false
  | .nil, [], _, _, hp => by simp at hp
  | .nil, _ :: _, h, _, _ => by simp [chkL] at h
  | .cons _ _, [], h, _, _ => by simp [chkL] at h
  | .cons e es, p :: ps, h, q, hq => by
    simp only [chkL, Bool.and_eq_true] at h
    rcases List.mem_cons.mp hq with rfl | hq
    · exact chk_star h.1
    · exact chkL_star h.2 q hq
end DS

set_option Elab.async false
set_option linter.all false
set_option autoImplicit false
set_option maxRecDepth 100000
set_option maxHeartbeats 4000000
/-! DS7: the text does what the small language means: expressions, part by part. -/
namespace DS
open PySem PySem.Spec PySem.SeqAt PyProof.Rows L2

structure Snd (T : Stc) (Ex : XK) (X : Cx) (e : E) (pe : Expr) : Prop where
  pf : PE X pe (rdE T Ex false e)
  pt : PE X pe (rdE T Ex true e)
  ts : PT X pe (rdT T Ex e)
section
variable {T : Stc} {Ex : XK} {X : Cx} {e a b : E} {pe pa pb : Expr} {pos : Pos} {c : StA} {O Oi : List Addr} {H H1 B : Hp} {N n : Nat} {σ : L2.St} {r : Env} {Q : VK}
theorem EnvOk.at (env : EOk T c N Oi B O H σ r) : At T c O H := ⟨env.trk⟩
/-- the answer is told at the end -/
theorem fin_ans {w : W} (env : EOk T c n Oi B O H1 σ r) (f : Fr c H H1) {bw : Bool} (h : Fin T c O H bw Q w n) : Ans T c O H1 w Q := fun v H' s rw => h v H' (f.trans (.of s)) (env.st.same s) (.inl rw)
theorem fin_ret {w : W} (env : EOk T c n Oi B O H1 σ r) (f : Fr c H H1) {bw : Bool} {v : V} (h : Fin T c O H bw Q w n) (rb : RB T c O H1 bw v w) : Q v H1 := h v H1 f env.st rb
theorem wBool_some {x : W} {k : Bool} (h : wBool x = some k) : x = .d (.bool k) := by
  unfold wBool at h
  split at h
  · cases h; rfl
  · cases h
theorem wInt_some {x : W} {k : Int} (h : wInt x = some k) : x = .d (.int k) := by
  unfold wInt at h
  split at h
  · cases h; rfl
  · cases h
theorem Snd.plain (hb : ∀ r, evE T.fs T.gs r true e = evE T.fs T.gs r false e) (h : PE X pe (rdE T Ex false e)) (he : ∀ wh, isTrue pe X.env wh = (do let v ← wh; standAt pe.pos; holding [v] (truthy v))) : Snd T Ex X e pe where
  pf := h
  pt := PE.weak h fun σ H Q ⟨c, N, Oi, B, O, r, env, q⟩ => ⟨c, N, Oi, B, O, r, env, by
    rw [hb] at q
    exact M.wp_mono (fun w n k v H' f s rb => k v H' f s (.inl rb.plain)) (fun _ _ x => x) q⟩
  ts := PT.weak (pt_val h he) fun σ H Q ⟨c, N, Oi, B, O, r, env, q⟩ => ⟨c, N, Oi, B, O, r, env, by
    refine M.wp_mono (fun w n k v H' f s rb => ?_) (fun _ _ x => x) (M.wp_bind.mp q)
    obtain ⟨k2, e1, k3⟩ := opt_wp k
    rw [wBool_some e1] at rb
    exact ⟨k2, rb.bool, k3 H' f s⟩⟩

/-! ### names, constants -/
theorem s_v {i : Nat} {x : Str} (hN : X.N[i]? = some x) (hv : Vis X.env.scope x) (hd : (x == ("__debug__" : Str)) = false) (hcd : (x == ("__classdict__" : Str)) = false) : Snd T Ex X (.v i) (.Name x pos) := by
  have go : ∀ bw, PE X (.Name x pos) (rdE T Ex bw (.v i)) := fun bw => PE.weak (pe_var hN hv hd hcd) fun σ H Q ⟨c, N, Oi, B, O, r, env, q⟩ => by
    have q : (getN r bw i).wp N (Fin T c O H bw Q) (EX T Ex c O H) := q
    unfold getN at q
    split at q
    · rename_i w hw
      obtain ⟨v, h1, h2⟩ := env.sh i w hw
      exact ⟨v, h1, fin_ret env Fr.refl q (.inl h2)⟩
    · rename_i w hw
      split at q
      · rename_i hb
        obtain ⟨a, h1, h2, h3, h4, h5⟩ := env.ow i w hw
        exact ⟨_, h1, fin_ret env Fr.refl q (.inr ⟨hb, a, rfl, h2, fun z => h4 (z ▸ env.sO), fun z => h4 (z ▸ env.lO), h5⟩)⟩
      · exact q.elim
    · exact q.elim
  refine ⟨go false, go true, ?_⟩
  exact PT.weak (pt_val (go false)) fun σ H Q ⟨c, N, Oi, B, O, r, env, q⟩ => ⟨c, N, Oi, B, O, r, env, by
    refine M.wp_mono (fun w n k v H' f s rb => ?_) (fun _ _ x => x) (M.wp_bind.mp q)
    obtain ⟨k2, e1, k3⟩ := opt_wp k
    rw [wBool_some e1] at rb
    exact ⟨k2, rb.bool, k3 H' f s⟩⟩
theorem s_const {v : V} {w : W} (hv : ∀ c G, RW T.K T.fa c G v w) (he : ∀ r bw, evE T.fs T.gs r bw e = .ret w) (hp : PE X pe (tC v)) (ht : ∀ wh, isTrue pe X.env wh = (do let v ← wh; standAt pe.pos; holding [v] (truthy v))) : Snd T Ex X e pe :=
  .plain (fun r => by rw [he, he]) (PE.weak hp fun σ H Q ⟨c, N, Oi, B, O, r, env, q⟩ => by
    rw [he] at q
    exact fin_ret env Fr.refl q (.inl (hv _ _))) ht
/-! ### displays -/
theorem s_tup {es : EL} {ps : List Expr} {k : Nat} (h : PA X ps (rdL T Ex es)) (hl : es.len ≤ 1000) (hlen : ∀ r N Q E, (evL T.fs T.gs r es).wp N Q E → (evL T.fs T.gs r es).wp N (fun ws n => ws.length = es.len ∧ Q ws n) E) : Snd T Ex X (.tup es) (.Tuple ps k pos) :=
  .plain (fun _ => rfl) (PE.weak (pe_tup h) fun σ H Q ⟨c, N, Oi, B, O, r, env, q⟩ => by
    have q := M.wp_bind.mp q
    refine ⟨c, N, Oi, B, O, r, env, M.wp_mono ?_ (fun _ _ x => x) (hlen _ _ _ _ q)⟩
    intro ws n ⟨hn, q⟩ vs H1 f s rws
    have env1 := env.step f s
    cases hd : datas ws with
    | none => rw [hd] at q; exact q.elim
    | some ds =>
      rw [hd] at q
      have rd := rws.datas hd
      refine ⟨?_, (fin_ans env1 f q).tup env1.at rd⟩
      rw [rws.len, hn, sizeLine_eq]; omega) (by intro _; rfl)
theorem s_lst {es : EL} {ps : List Expr} (h : PA X ps (rdL T Ex es)) (hl : es.len ≤ 1000) (hlen : ∀ r N Q E, (evL T.fs T.gs r es).wp N Q E → (evL T.fs T.gs r es).wp N (fun ws n => ws.length = es.len ∧ Q ws n) E) : Snd T Ex X (.lst es) (.List ps pos) :=
  .plain (fun _ => rfl) (PE.weak (pe_lst h) fun σ H Q ⟨c, N, Oi, B, O, r, env, q⟩ => by
    have q := M.wp_bind.mp q
    refine ⟨c, N, Oi, B, O, r, env, M.wp_mono ?_ (fun _ _ x => x) (hlen _ _ _ _ q)⟩
    intro ws n ⟨hn, q⟩ vs H1 f s rws
    have env1 := env.step f s
    cases hd : datas ws with
    | none => rw [hd] at q; exact q.elim
    | some ds =>
      rw [hd] at q
      have rd := rws.datas hd
      refine ⟨?_, (fin_ans env1 f q).lst env1.at rd⟩
      rw [rws.len, hn, sizeLine_eq]; omega) (by intro _; rfl)
theorem evL_len {fs : Fns} {gs : List W} {r : Env} : ∀ {es : EL} {N : Nat} {Q : List W → Nat → Prop} {E : EXk}, (evL fs gs r es).wp N Q E → (evL fs gs r es).wp N (fun ws n => ws.length = es.len ∧ Q ws n) E
  | .nil, N, Q, E, h => by
    unfold evL at h ⊢
    exact ⟨rfl, h⟩
  | .cons e es, N, Q, E, h => by
    unfold evL at h ⊢
    refine M.wp_bind.mpr (M.wp_mono (fun w n k => ?_) (fun _ _ x => x) (M.wp_bind.mp h))
    refine M.wp_bind.mpr (M.wp_mono (fun ws n k => ?_) (fun _ _ x => x) (evL_len (M.wp_bind.mp k)))
    exact ⟨congrArg (· + 1) k.1, k.2⟩
theorem s_dnew : Snd T Ex X .dnew (.Dict [] [] pos) :=
  .plain (fun _ => rfl) (PE.weak pe_dnewK fun σ H Q ⟨c, N, Oi, B, O, r, env, q⟩ p hp => by
    have q : Fin T c O H false Q (.dK []) N := q
    exact fin_ans env Fr.refl q _ _ (same_new hp) (.dK (by rw [hide_out (env.fresh hp)]; exact upd_same) .nil)) (by intro _; rfl)
/-! ### arguments -/
theorem a_nil : PA X [] (rdL T Ex .nil) := PA.weak pa_nil fun σ H Q ⟨c, N, Oi, B, O, r, env, q⟩ => by
  have q : FinL T c O H Q [] N := q
  exact q [] H Fr.refl env.st .nil
theorem a_cons {es : EL} {p : Expr} {ps : List Expr} (h1 : PE X p (rdE T Ex false e)) (h2 : PA X ps (rdL T Ex es)) (hs : star p = false) : PA X (p :: ps) (rdL T Ex (.cons e es)) :=
  PA.weak (pa_cons h1 h2 (star_each hs)) fun σ H Q ⟨c, N, Oi, B, O, r, env, q⟩ => by
    unfold evL at q
    refine rd1 env q fun w n v H1 f1 env1 rb q1 => rd1L env1 q1 fun ws n2 vs H2 f2 env2 rws q2 => ?_
    have q2 : FinL T c O H Q (w :: ws) n2 := q2
    exact q2 (v :: vs) H2 (f1.trans f2) env2.st (.cons (rb.plain.mono (f2.hide env1.sO' env1.lO')) rws)

/-! ### operators -/
theorem s_bin {op : Bop} (hK : X.K = T.K) (ha : Snd T Ex X a pa) (hb : Snd T Ex X b pb) : Snd T Ex X (.bin op a b) (.BinOp pa (bopOf op) pb pos) :=
  .plain (fun _ => rfl) (PE.weak (pe_op (op_bin op hK) ha.pt hb.pt) fun σ H Q ⟨c, N, Oi, B, O, r, env, q⟩ => by
    unfold evE at q
    refine rd1 env q fun x n v H1 f1 env1 rb q1 => rd1 env1 q1 fun y n2 v2 H2 f2 env2 rb2 q2 => ?_
    obtain ⟨w, hw, q3⟩ := opt_wp q2
    exact ⟨c, O, true, true, x, y, w, env2.at, rb.step f2 env1.sO' env1.lO' env1.trk, rb2, hw, (fin_ans env2 (f1.trans f2) q3).f⟩) (by intro _; rfl)
theorem s_neg (ha : Snd T Ex X a pa) : Snd T Ex X (.neg a) (.UnaryOp .USub pa pos) :=
  .plain (fun _ => rfl) (PE.weak (pe_un un_neg ha.pf) fun σ H Q ⟨c, N, Oi, B, O, r, env, q⟩ => by
    unfold evE at q
    refine rd1 env q fun x n v H1 f1 env1 rb q1 => ?_
    obtain ⟨i, hi, q2⟩ := opt_wp (M.wp_bind.mp q1)
    rw [wInt_some hi] at rb
    exact ⟨i, rb.int, (fin_ans env1 f1 q2).int⟩) (by intro _; rfl)
theorem cmp_pair {op : Cop} {P : Hp → V → V → Prop} (env : EOk T c N Oi B O H σ r) {Qf : W → Nat → Prop} (q : (evE T.fs T.gs r false (.cmp op a b)).wp N Qf (EX T Ex c O H))
    (k : ∀ x y v v2 j n2 H2, Fr c H H2 → EOk T c n2 Oi B O H2 σ r → RB T c O H2 true v x → RB T c O H2 true v2 y → cmpW op x y = some j → Qf (.b j) n2 → P H2 v v2) : rdE T Ex true a σ H fun v H1 => rdE T Ex true b σ H1 fun v2 H2 => P H2 v v2 := by
  unfold evE at q
  refine rd1 env q fun x n v H1 f1 env1 rb q1 => rd1 env1 q1 fun y n2 v2 H2 f2 env2 rb2 q2 => ?_
  obtain ⟨j, hj, q3⟩ := opt_wp (M.wp_bind.mp q2)
  exact k x y v v2 j n2 H2 (f1.trans f2) env2 (rb.step f2 env1.sO' env1.lO' env1.trk) rb2 hj q3
theorem nomark_of {op : Cop} (h : ∀ es k p, pb ≠ .Set es k p) : behindInMarks (cmpOpOf op) pb = false := by
  cases pb <;> first | rfl | exact absurd rfl (h _ _ _)
theorem s_cmp {op : Cop} (hK : X.K = T.K) (hu : X.A.units + 65 < cLine) (ha : Snd T Ex X a pa) (hb : Snd T Ex X b pb) (hm : behindInMarks (cmpOpOf op) pb = false) : Snd T Ex X (.cmp op a b) (.Compare pa [cmpOpOf op] [pb] pos) where
  pf := PE.weak (pe_cmpR (op_cmp (T := T) op hK hu) ha.pt hb.pt hm) fun σ H Q ⟨c, N, Oi, B, O, r, env, q⟩ =>
    cmp_pair (P := fun H2 v v2 => rCmp T op v v2 H2 Q) env q fun x y v v2 j n2 H2 f env2 r1 r2 hj q3 => ⟨c, O, true, true, x, y, j, r1, r2, hj, (fin_ans env2 f q3).bool⟩
  pt := PE.weak (pe_cmpR (op_cmp (T := T) op hK hu) ha.pt hb.pt hm) fun σ H Q ⟨c, N, Oi, B, O, r, env, q⟩ =>
    cmp_pair (P := fun H2 v v2 => rCmp T op v v2 H2 Q) env q fun x y v v2 j n2 H2 f env2 r1 r2 hj q3 => ⟨c, O, true, true, x, y, j, r1, r2, hj, (fin_ans env2 f q3).bool⟩
  ts := PT.weak (pt_cmpR (op_cmp (T := T) op hK hu) ha.pt hb.pt hm) fun σ H Q ⟨c, N, Oi, B, O, r, env, q⟩ =>
    cmp_pair (P := fun H2 v v2 => rCmp T op v v2 H2 fun x H' => ∃ k, x = .bl k ∧ Q k H') env (M.wp_bind.mp q) fun x y v v2 j n2 H2 f env2 r1 r2 hj q3 =>
      ⟨c, O, true, true, x, y, j, r1, r2, hj, j, rfl, (show FinT c H Q j n2 from q3) H2 f env2.st⟩
end
end DS

set_option Elab.async false
set_option linter.all false
set_option autoImplicit false
set_option maxRecDepth 100000
set_option maxHeartbeats 4000000
/-! DS8: expressions, part by part (on). -/
namespace DS
open PySem PySem.Spec PySem.SeqAt PyProof.Rows L2
section
variable {T : Stc} {Ex : XK} {X : Cx} {e a b d : E} {pe pa pb pd : Expr} {pos p : Pos} {c : StA} {O Oi : List Addr} {H H1 B : Hp} {N n : Nat} {σ : L2.St} {r : Env} {Q : VK} {x : Str}
theorem rw_non {K : Frag} {fa : Nat → Addr} {G : Hp} {v : V} {w : W} (h : RW K fa c G v w) : decide (v = .non) = isNone w := by
  cases h with
  | d h => cases h <;> rfl
  | tok => rfl
  | fn _ => rfl
  | dK _ _ => rfl
  | dT _ _ => rfl
theorem s_isN {j : Nat} {p2 : Pos} (ha : Snd T Ex X a pa) : Snd T Ex X (.isN a) (.Compare pa [.Is] [.Constant .none j p2] pos) := by
  have key : ∀ σ H Q, rdE T Ex false (.isN a) σ H Q → tIsN (rdE T Ex false a) σ H Q := fun σ H Q ⟨c, N, Oi, B, O, r, env, q⟩ => by
    unfold evE at q
    refine rd1 env q fun w n v H1 f1 env1 rb q1 => ?_
    rw [rw_non rb.plain]
    exact (fin_ans env1 f1 q1).bool
  exact ⟨PE.weak (pe_cmp (pc_isN ha.pf)) key, PE.weak (pe_cmp (pc_isN ha.pf)) fun σ H Q ⟨c, N, Oi, B, O, r, env, q⟩ => key σ H Q ⟨c, N, Oi, B, O, r, env, M.wp_mono (fun w n k v H' f s rb => k v H' f s (.inl rb.plain)) (fun _ _ x => x) q⟩,
    PT.weak (pt_cmp (pc_isN ha.pf)) fun σ H Q ⟨c, N, Oi, B, O, r, env, q⟩ => key σ H _ ⟨c, N, Oi, B, O, r, env, M.wp_mono (fun w n k v H' f s rb => by
      obtain ⟨k2, e1, k3⟩ := opt_wp k
      rw [wBool_some e1] at rb
      exact ⟨k2, rb.bool, k3 H' f s⟩) (fun _ _ x => x) (M.wp_bind.mp q)⟩⟩
theorem s_notN {j : Nat} {p2 : Pos} (ha : Snd T Ex X a pa) : Snd T Ex X (.notN a) (.Compare pa [.IsNot] [.Constant .none j p2] pos) := by
  have key : ∀ σ H Q, rdE T Ex false (.notN a) σ H Q → tNotN (rdE T Ex false a) σ H Q := fun σ H Q ⟨c, N, Oi, B, O, r, env, q⟩ => by
    unfold evE at q
    refine rd1 env q fun w n v H1 f1 env1 rb q1 => ?_
    rw [rw_non rb.plain]
    exact (fin_ans env1 f1 q1).bool
  exact ⟨PE.weak (pe_cmp (pc_notN ha.pf)) key, PE.weak (pe_cmp (pc_notN ha.pf)) fun σ H Q ⟨c, N, Oi, B, O, r, env, q⟩ => key σ H Q ⟨c, N, Oi, B, O, r, env, M.wp_mono (fun w n k v H' f s rb => k v H' f s (.inl rb.plain)) (fun _ _ x => x) q⟩,
    PT.weak (pt_cmp (pc_notN ha.pf)) fun σ H Q ⟨c, N, Oi, B, O, r, env, q⟩ => key σ H _ ⟨c, N, Oi, B, O, r, env, M.wp_mono (fun w n k v H' f s rb => by
      obtain ⟨k2, e1, k3⟩ := opt_wp k
      rw [wBool_some e1] at rb
      exact ⟨k2, rb.bool, k3 H' f s⟩) (fun _ _ x => x) (M.wp_bind.mp q)⟩⟩
theorem chain_pair {p q : Cop} {P1 : VK} {Pq : Hp → V → V → Prop} (env : EOk T c N Oi B O H σ r) {Qf : W → Nat → Prop} (h : (evE T.fs T.gs r false (.chain p q a b d)).wp N Qf (EX T Ex c O H))
    (k1 : ∀ n2 H2, Fr c H H2 → EOk T c n2 Oi B O H2 σ r → Qf (.b false) n2 → P1 (.bl false) H2) (k2 : ∀ y z v2 v3 j n3 H3, Fr c H H3 → EOk T c n3 Oi B O H3 σ r → RB T c O H3 false v2 y → RB T c O H3 false v3 z → cmpW q y z = some j → Qf (.b j) n3 → Pq H3 v2 v3) :
    rdE T Ex false a σ H fun v H1 => rdE T Ex false b σ H1 fun v2 H2 => rCmp T p v v2 H2 fun z H3 => ∃ k, z = .bl k ∧ (if k = true then rdE T Ex false d σ H3 fun v3 H4 => Pq H4 v2 v3 else P1 (.bl false) H3) := by
  unfold evE at h
  refine rd1 env h fun x n v H1 f1 env1 rb q1 => rd1 env1 q1 fun y n2 v2 H2 f2 env2 rb2 q2 => ?_
  obtain ⟨j, hj, q3⟩ := opt_wp (M.wp_bind.mp q2)
  refine ⟨c, O, false, false, x, y, j, rb.step f2 env1.sO' env1.lO' env1.trk, rb2, hj, j, rfl, ?_⟩
  cases j with
  | false =>
    rw [if_neg Bool.false_ne_true] at q3 ⊢
    exact k1 n2 H2 (f1.trans f2) env2 q3
  | true =>
    rw [if_pos rfl] at q3 ⊢
    refine rd1 env2 q3 fun z n3 v3 H3 f3 env3 rb3 q4 => ?_
    obtain ⟨j2, hj2, q5⟩ := opt_wp (M.wp_bind.mp q4)
    exact k2 y z v2 v3 j2 n3 H3 ((f1.trans f2).trans f3) env3 (rb2.step f3 env2.sO' env2.lO' env2.trk) rb3 hj2 q5
theorem s_chain {p q : Cop} (hK : X.K = T.K) (hu : X.A.units + 65 < cLine) (ha : Snd T Ex X a pa) (hb : Snd T Ex X b pb) (hd : Snd T Ex X d pd) (hp1 : behindInMarks (cmpOpOf p) pb = false) (hp2 : behindInMarks (cmpOpOf q) pd = false)
    (hc : PE X (.Compare pa [cmpOpOf p, cmpOpOf q] [pb, pd] pos) (tChain (rCmp T p) (rCmp T q) (rdE T Ex false a) (rdE T Ex false b) (rdE T Ex false d)))
    (ht : PT X (.Compare pa [cmpOpOf p, cmpOpOf q] [pb, pd] pos) (tTest (tChain (rCmp T p) (rCmp T q) (rdE T Ex false a) (rdE T Ex false b) (rdE T Ex false d)))) : Snd T Ex X (.chain p q a b d) (.Compare pa [cmpOpOf p, cmpOpOf q] [pb, pd] pos) where
  pf := PE.weak hc fun σ H Q ⟨c, N, Oi, B, O, r, env, h⟩ => chain_pair (P1 := Q) (Pq := fun H3 v2 v3 => rCmp T q v2 v3 H3 Q) env h (fun n2 H2 f e q => (fin_ans e f q).bool) fun y z v2 v3 j n3 H3 f e r1 r2 hj q => ⟨_, O, false, false, y, z, j, r1, r2, hj, (fin_ans e f q).bool⟩
  pt := PE.weak hc fun σ H Q ⟨c, N, Oi, B, O, r, env, h⟩ => chain_pair (P1 := Q) (Pq := fun H3 v2 v3 => rCmp T q v2 v3 H3 Q) env h (fun n2 H2 f e q => (fin_ans e f q).bool) fun y z v2 v3 j n3 H3 f e r1 r2 hj q => ⟨_, O, false, false, y, z, j, r1, r2, hj, (fin_ans e f q).bool⟩
  ts := PT.weak ht fun σ H Q ⟨c, N, Oi, B, O, r, env, h⟩ => chain_pair (P1 := fun x H' => ∃ k, x = .bl k ∧ Q k H') (Pq := fun H3 v2 v3 => rCmp T q v2 v3 H3 fun x H' => ∃ k, x = .bl k ∧ Q k H') env (M.wp_bind.mp h)
    (fun n2 H2 f e q => ⟨false, rfl, (show FinT c H Q false n2 from q) H2 f e.st⟩) fun y z v2 v3 j n3 H3 f e r1 r2 hj q => ⟨_, O, false, false, y, z, j, r1, r2, hj, j, rfl, (show FinT c H Q j n3 from q) H3 f e.st⟩

/-! ### not, and, or, if else -/
theorem s_not (ha : Snd T Ex X a pa) : Snd T Ex X (.not a) (.UnaryOp .Not pa pos) := by
  have key : ∀ {bw σ H Q}, rdE T Ex bw (.not a) σ H Q → tNotV (rdE T Ex false a) σ H Q := fun {bw σ H Q} ⟨c, N, Oi, B, O, r, env, q⟩ => by
    unfold evE at q
    refine rd1 env q fun w n v H1 f1 env1 rb q1 => ?_
    obtain ⟨k, hk, q2⟩ := opt_wp (M.wp_bind.mp q1)
    rw [wBool_some hk] at rb
    exact ⟨k, rb.bool, (fin_ans env1 f1 q2).bool⟩
  refine ⟨PE.weak (pe_not ha.pf) fun σ H Q h => key h, PE.weak (pe_not ha.pf) fun σ H Q h => key h, PT.weak (pt_not ha.ts) fun σ H Q ⟨c, N, Oi, B, O, r, env, q⟩ => ?_⟩
  unfold evE at q
  rw [M.bind_assoc] at q
  refine rd1T (f := fun k => (M.ret (W.b (!k))).bind fun x => opt (wBool x)) env (by
    have e : (fun x => ((opt (wBool x)).bind fun k => M.ret (W.b (!k))).bind fun x => opt (wBool x)) = fun x => (opt (wBool x)).bind fun k => (M.ret (W.b (!k))).bind fun x => opt (wBool x) := by
      funext x; rw [M.bind_assoc]
    rw [← e]; exact q) fun k n H1 f1 env1 q1 => ?_
  have q1 : FinT c H Q (!k) n := q1
  exact q1 H1 f1 env1.st
theorem s_ite (hc : Snd T Ex X d pd) (ha : Snd T Ex X a pa) (hb : Snd T Ex X b pb) : Snd T Ex X (.ite d a b) (.IfExp pd pa pb pos) := by
  have key : ∀ {bw σ H Q}, rdE T Ex bw (.ite d a b) σ H Q → tIf (rdT T Ex d) (rdE T Ex false a) (rdE T Ex false b) σ H Q := fun {bw σ H Q} ⟨c, N, Oi, B, O, r, env, q⟩ => by
    unfold evE at q
    refine rd1T env q fun k n H1 f1 env1 q1 => ?_
    cases k with
    | true =>
      rw [if_pos rfl] at q1 ⊢
      exact ⟨c, n, Oi, B, O, r, env1, M.wp_mono (fun w n k v H' f s rb => k v H' (f1.trans f) s (.inl rb.plain)) (fun x n h => h) q1⟩
    | false =>
      rw [if_neg Bool.false_ne_true] at q1 ⊢
      exact ⟨c, n, Oi, B, O, r, env1, M.wp_mono (fun w n k v H' f s rb => k v H' (f1.trans f) s (.inl rb.plain)) (fun x n h => h) q1⟩
  refine ⟨PE.weak (pe_ifExp hc.ts ha.pf hb.pf) fun σ H Q h => key h, PE.weak (pe_ifExp hc.ts ha.pf hb.pf) fun σ H Q h => key h, ?_⟩
  refine ⟨fun pins s σ H Q I ⟨c, N, Oi, B, O, r, env, q⟩ => isTrue_IfExp ?_⟩
  unfold evE at q
  rw [M.bind_assoc] at q
  have q : ((evE T.fs T.gs r false d).bind fun x => (opt (wBool x)).bind fun k => (if k = true then evE T.fs T.gs r false a else evE T.fs T.gs r false b).bind fun x => opt (wBool x)).wp N (FinT c H Q) (EX T Ex c O H) := by
    have e : (fun x => ((opt (wBool x)).bind fun k => if k = true then evE T.fs T.gs r false a else evE T.fs T.gs r false b).bind fun x => opt (wBool x)) = fun x => (opt (wBool x)).bind fun k => (if k = true then evE T.fs T.gs r false a else evE T.fs T.gs r false b).bind fun x => opt (wBool x) := by
      funext x; rw [M.bind_assoc]
    rw [← e]; exact q
  have h1 : rdT T Ex d σ H fun k H1 => if k = true then rdT T Ex a σ H1 Q else rdT T Ex b σ H1 Q := rd1T env q fun k n H1 f1 env1 q1 => by
    cases k with
    | true =>
      rw [if_pos rfl] at q1 ⊢
      exact ⟨c, n, Oi, B, O, r, env1, M.wp_mono (fun w n k H' f s => k H' (f1.trans f) s) (fun x n h => h) q1⟩
    | false =>
      rw [if_neg Bool.false_ne_true] at q1 ⊢
      exact ⟨c, n, Oi, B, O, r, env1, M.wp_mono (fun w n k H' f s => k H' (f1.trans f) s) (fun x n h => h) q1⟩
  refine thn (hc.ts.run pins s σ H _ I h1) fun k s1 ⟨H1, I1, q1⟩ => ?_
  cases k with
  | true => exact ha.ts.run pins s1 σ H1 Q I1 q1
  | false => exact hb.ts.run pins s1 σ H1 Q I1 q1
end
end DS

set_option Elab.async false
set_option linter.all false
set_option autoImplicit false
set_option maxRecDepth 100000
set_option maxHeartbeats 4000000
/-! DS9: and, or; subscripts; calls. -/
namespace DS
open PySem PySem.Spec PySem.SeqAt PyProof.Rows L2
inductive SndL (T : Stc) (Ex : XK) (X : Cx) : EL → List Expr → Prop
  | nil : SndL T Ex X .nil []
  | cons {e : E} {p : Expr} {es : EL} {ps : List Expr} : Snd T Ex X e p → star p = false → SndL T Ex X es ps → SndL T Ex X (.cons e es) (p :: ps)
section
variable {T : Stc} {Ex : XK} {X : Cx} {e a b d : E} {es : EL} {ps : List Expr} {pe pa pb pd : Expr} {pos p : Pos} {c : StA} {O Oi : List Addr} {H H1 B : Hp} {N n : Nat} {σ : L2.St} {r : Env} {Q : VK} {x : Str}
theorem SndL.toPA : ∀ {es : EL} {ps : List Expr}, SndL T Ex X es ps → PA X ps (rdL T Ex es)
  | _, _, .nil => a_nil
  | _, _, .cons h s t => a_cons h.pf t.toPA s
theorem SndL.star : ∀ {es : EL} {ps : List Expr}, SndL T Ex X es ps → ∀ p ∈ ps, DS.star p = false
  | _, _, .nil, _, hp => by simp at hp
  | _, _, .cons _ s t, q, hq => by
    rcases List.mem_cons.mp hq with rfl | hq
    · exact s
    · exact t.star q hq
theorem SndL.len : ∀ {es : EL} {ps : List Expr}, SndL T Ex X es ps → ps.length = es.len
  | _, _, .nil => rfl
  | _, _, .cons _ _ t => congrArg (· + 1) t.len
def bopO (conj : Bool) : BoolOp := if conj = true then .And else .Or
def rdB (T : Stc) (Ex : XK) (conj : Bool) (es : EL) : TE := fun σ H Q => ∃ c N Oi B O r, EOk T c N Oi B O H σ r ∧ (evB T.fs T.gs r conj es).wp N (Fin T c O H false Q) (EX T Ex c O H)
def rdBT (T : Stc) (Ex : XK) (conj : Bool) (es : EL) : TT := fun σ H Q => ∃ c N Oi B O r, EOk T c N Oi B O H σ r ∧ ((evB T.fs T.gs r conj es).bind fun x => opt (wBool x)).wp N (FinT c H Q) (EX T Ex c O H)
theorem b_pe (conj : Bool) : ∀ {es : EL} {ps : List Expr} {e : E} {p : Expr}, SndL T Ex X (.cons e es) (p :: ps) → PE X (.BoolOp (bopO conj) (p :: ps) pos) (rdB T Ex conj (.cons e es))
  | .nil, [], e, p, .cons h _ .nil => PE.weak (pe_one h.pf) fun σ H Q ⟨c, N, Oi, B, O, r, env, q⟩ => ⟨c, N, Oi, B, O, r, env, by unfold evB at q; exact q⟩
  | .cons e2 es2, p2 :: ps2, e, p, .cons h _ t => by
    have ih := b_pe conj t
    have key : ∀ σ H Q, rdB T Ex conj (.cons e (.cons e2 es2)) σ H Q → rdE T Ex false e σ H fun x H1 => ∃ c, x = .bl c ∧ if c = conj then rdB T Ex conj (.cons e2 es2) σ H1 Q else Q (.bl (!conj)) H1 := fun σ H Q ⟨c, N, Oi, B, O, r, env, q⟩ => by
      unfold evB at q
      refine rd1 env q fun w n v H1 f1 env1 rb q1 => ?_
      obtain ⟨k, hk, q2⟩ := opt_wp (M.wp_bind.mp q1)
      rw [wBool_some hk] at rb
      refine ⟨k, rb.bool, ?_⟩
      by_cases hc : k = conj
      · rw [if_pos hc] at q2 ⊢
        exact ⟨c, n, Oi, B, O, r, env1, M.wp_mono (fun w n h => h.step f1) (fun x n h => h) q2⟩
      · rw [if_neg hc] at q2 ⊢
        exact (fin_ans env1 f1 q2).bool
    cases conj with
    | true => exact PE.weak (pe_and h.pf ih) fun σ H Q h => key σ H Q h
    | false =>
      refine PE.weak (pe_or h.pf ih) fun σ H Q hh => ?_
      obtain ⟨c, N, Oi, B, O, r, env, q⟩ := key σ H Q hh
      refine ⟨c, N, Oi, B, O, r, env, M.wp_mono (fun w n k v H' f s rb => ?_) (fun _ _ x => x) q⟩
      obtain ⟨k2, e1, k3⟩ := k v H' f s rb
      refine ⟨k2, e1, ?_⟩
      cases k2 with
      | true => exact k3
      | false => exact k3
theorem b_pw (conj : Bool) : ∀ {es : EL} {ps : List Expr} {e : E} {p : Expr}, SndL T Ex X (.cons e es) (p :: ps) → PW X (.BoolOp (bopO conj) (p :: ps) pos) (rdBT T Ex conj (.cons e es))
  | .nil, [], e, p, .cons h _ .nil => by
    have key : ∀ σ H Q, rdBT T Ex conj (.cons e .nil) σ H Q → rdT T Ex e σ H Q := fun σ H Q ⟨c, N, Oi, B, O, r, env, q⟩ => ⟨c, N, Oi, B, O, r, env, by unfold evB at q; exact q⟩
    cases conj with
    | true => exact PW.weak (pw_and1 h.ts) key
    | false => exact PW.weak (pw_or1 h.ts) key
  | .cons e2 es2, p2 :: ps2, e, p, .cons h _ t => by
    have ih := b_pw conj t
    have key : ∀ σ H Q, rdBT T Ex conj (.cons e (.cons e2 es2)) σ H Q → rdT T Ex e σ H fun c H1 => if c = conj then rdBT T Ex conj (.cons e2 es2) σ H1 Q else Q (!conj) H1 := fun σ H Q ⟨c, N, Oi, B, O, r, env, q⟩ => by
      unfold evB at q
      rw [M.bind_assoc] at q
      have q : ((evE T.fs T.gs r false e).bind fun x => (opt (wBool x)).bind fun k => (if k = conj then evB T.fs T.gs r conj (.cons e2 es2) else .ret (.b (!conj))).bind fun x => opt (wBool x)).wp N (FinT c H Q) (EX T Ex c O H) := by
        have e0 : (fun x => ((opt (wBool x)).bind fun k => if k = conj then evB T.fs T.gs r conj (.cons e2 es2) else .ret (.b (!conj))).bind fun x => opt (wBool x)) = fun x => (opt (wBool x)).bind fun k => (if k = conj then evB T.fs T.gs r conj (.cons e2 es2) else .ret (.b (!conj))).bind fun x => opt (wBool x) := by
          funext x; rw [M.bind_assoc]
        rw [← e0]; exact q
      refine rd1T env q fun k n H1 f1 env1 q1 => ?_
      by_cases hc : k = conj
      · rw [if_pos hc] at q1 ⊢
        exact ⟨c, n, Oi, B, O, r, env1, M.wp_mono (fun w n k H' f s => k H' (f1.trans f) s) (fun x n h => h) q1⟩
      · rw [if_neg hc] at q1 ⊢
        have q1 : FinT c H Q (!conj) n := q1
        exact q1 H1 f1 env1.st
    cases conj with
    | true => exact PW.weak (pw_and h.ts ih) key
    | false =>
      refine PW.weak (pw_or h.ts ih) fun σ H Q hh => ?_
      obtain ⟨c, N, Oi, B, O, r, env, q⟩ := key σ H Q hh
      refine ⟨c, N, Oi, B, O, r, env, M.wp_mono (fun k n q H' f s => ?_) (fun _ _ x => x) q⟩
      have q2 := q H' f s
      cases k with
      | true => exact q2
      | false => exact q2
theorem s_bop {conj : Bool} (h : SndL T Ex X es ps) (hne : es ≠ .nil) : Snd T Ex X (.bop conj es) (.BoolOp (bopO conj) ps pos) := by
  cases h with
  | nil => exact absurd rfl hne
  | cons h s t =>
    exact ⟨PE.weak (b_pe conj (.cons h s t)) fun σ H Q ⟨c, N, Oi, B, O, r, env, q⟩ => ⟨c, N, Oi, B, O, r, env, by unfold evE at q; exact q⟩,
      PE.weak (b_pe conj (.cons h s t)) fun σ H Q ⟨c, N, Oi, B, O, r, env, q⟩ => ⟨c, N, Oi, B, O, r, env, by unfold evE at q; exact M.wp_mono (fun w n k v H' f s rb => k v H' f s (.inl rb.plain)) (fun _ _ x => x) q⟩,
      PT.weak (b_pw conj (.cons h s t)).pt fun σ H Q ⟨c, N, Oi, B, O, r, env, q⟩ => ⟨c, N, Oi, B, O, r, env, by unfold evE at q; exact q⟩⟩

/-! ### subscripts -/
theorem plain_ix (h : isSl pe = false) : PlainIx pe := by
  intro o i
  cases pe <;> first | rfl | cases h
theorem s_ix (hK : X.K = T.K) (hu : X.A.units + 65 < cLine) (ha : Snd T Ex X a pa) (hb : Snd T Ex X b pb) (hs : isSl pb = false) : Snd T Ex X (.ix a b) (.Subscript pa pb pos) :=
  .plain (fun _ => rfl) (PE.weak (pe_ix (ix_w (T := T) hK hu) ha.pt hb.pf (plain_ix hs)) fun σ H Q ⟨c, N, Oi, B, O, r, env, q⟩ => by
    unfold evE at q
    refine rd1 env q fun x n v H1 f1 env1 rb q1 => rd1 env1 q1 fun y n2 v2 H2 f2 env2 rb2 q2 => ?_
    obtain ⟨w, hw, q3⟩ := opt_wp q2
    exact ⟨c, O, true, false, x, y, w, env2.at, rb.step f2 env1.sO' env1.lO' env1.trk, rb2, hw, fin_ans env2 (f1.trans f2) q3⟩) (by intro _; rfl)
/-- a bound -/
def rdO (T : Stc) (Ex : XK) (es : EL) : TO := fun σ H Q => ∃ c N Oi B O r, EOk T c N Oi B O H σ r ∧ (evO T.fs T.gs r es).wp N (fun o n => ∀ H', Fr c H H' → StOk c n H' → Q o H') (EX T Ex c O H)
theorem PO.weak {o : Option Expr} {t t' : TO} (h : PO X o t) (i : ∀ σ H Q, t' σ H Q → t σ H Q) : PO X o t' := ⟨fun pins s σ H Q I q => h.run pins s σ H Q I (i σ H Q q)⟩
theorem o_none : PO X none (rdO T Ex .nil) := PO.weak po_none fun σ H Q ⟨c, N, Oi, B, O, r, env, q⟩ => by
  unfold evO at q
  have q : ∀ H', Fr c H H' → StOk c N H' → Q none H' := q
  exact q H Fr.refl env.st
theorem o_some (h : Snd T Ex X e pe) : PO X (some pe) (rdO T Ex (.cons e es)) := PO.weak (po_some h.pf) fun σ H Q ⟨c, N, Oi, B, O, r, env, q⟩ => by
  unfold evO at q
  refine rd1 env q fun x n v H1 f1 env1 rb q1 => ?_
  obtain ⟨i, hi, q2⟩ := opt_wp (M.wp_bind.mp q1)
  rw [wInt_some hi] at rb
  have q2 : ∀ H', Fr c H H' → StOk c n H' → Q (some i) H' := q2
  exact ⟨i, rb.int, q2 H1 f1 env1.st⟩
theorem s_sl {lo hi : EL} {l h : Option Expr} {p2 : Pos} (hK : X.K = T.K) (ha : Snd T Ex X a pa) (hl : PO X l (rdO T Ex lo)) (hh : PO X h (rdO T Ex hi)) : Snd T Ex X (.sl a lo hi) (.Subscript pa (.Slice l h none p2) pos) :=
  .plain (fun _ => rfl) (PE.weak (pe_slice (sl_w (T := T) hK) ha.pt hl hh) fun σ H Q ⟨c, N, Oi, B, O, r, env, q⟩ => by
    unfold evE at q
    refine rd1 env q fun x n v H1 f1 env1 rb q1 => ?_
    refine ⟨c, n, Oi, B, O, r, env1, M.wp_mono (fun o n2 k H2 f2 s2 => ?_) (fun _ _ x => x) (M.wp_bind.mp q1)⟩
    have env2 := env1.step f2 s2
    refine ⟨c, n2, Oi, B, O, r, env2, M.wp_mono (fun o2 n3 k3 H3 f3 s3 => ?_) (fun _ _ h => h.step f2) (M.wp_bind.mp k)⟩
    have env3 := env2.step f3 s3
    obtain ⟨w, hw, q3⟩ := opt_wp k3
    exact ⟨c, O, true, x, w, env3.at, rb.step (f2.trans f3) env1.sO' env1.lO' env1.trk, hw, fin_ans env3 ((f1.trans f2).trans f3) q3⟩) (by intro _; rfl)

/-! ### calls -/
theorem applyF_of {fs : Fns} {f : Nat} {F : List W → M W} {ws : List W} (h : fs[f]? = some F) : applyF fs f ws = F ws := by
  unfold applyF; rw [h]
/-- what the callee promises is what is wanted -/
theorem sp_of {nn : Nat} {F : List W → M W} {ws : List W} {vs : List V} (env : EOk T c N Oi B O H1 σ r) (hl : vs.length = nn) (rws : RWs T.K T.fa c (hide O H1) vs ws) (f1 : Fr c H H1) {bw : Bool} (q : (F ws).wp N (Fin T c O H bw Q) (EX T Ex c O H1)) : spM T nn F vs H1 Q Ex :=
  ⟨hl, c, N, O, ws, env.sO', env.lO', env.trk, env.st, rws, M.wp_mono (fun w n k v H' f s rb => k v H' (f1.trans f) s (.inl rb.plain)) (fun x n h => h) q⟩
section
variable {kw : List (Nat × Nat × List Str × List Nat)} {Nm : List Str} {sc : Scope} {Fn : Str → Bool}
theorem gl_of (xo : XOk T Nm sc Fn Ex X) (h : glB sc x = true) : Gl X x := by
  show X.env.scope.names.lookup x = _
  rw [xo.hsc]
  exact (glB_ok h).1
theorem s_call {f : Nat} (tk : TOk T kw) (xo : XOk T Nm sc Fn Ex X) (hf : T.fn[f]? = some x) (hg : glB sc x = true) (h : SndL T Ex X es ps) : Snd T Ex X (.call f es) (.Call (.Name x p) ps [] pos) := by
  obtain ⟨F, nn, fd, pps, h1, h2, h3, h4, h5, h6, h7, _⟩ := tk.fns f x hf
  have FG : FnG X.prog X.w X.K X.mg X.base T.k (T.fa f) fd pps (spM T nn F) := by rw [xo.hP, xo.hw, xo.hK, xo.hmg, xo.hbase]; exact h6
  refine .plain (fun _ => rfl) ?_ (by intro _; rfl)
  cases h with
  | nil =>
    refine PE.weak (pe_cG0 FG xo.room xo.gd (gl_of xo hg) (by rw [xo.hmg]; exact h2) (by rw [xo.hK]; exact h3) (by rw [xo.hK]; exact h4) xo.pas (glB_ok hg).2) fun σ H Q ⟨c, N, Oi, B, O, r, env, q⟩ => ?_
    unfold evE evL at q
    have q : (applyF T.fs f []).wp N (Fin T c O H false Q) (EX T Ex c O H) := q
    rw [applyF_of h1] at q
    exact sp_of env (h7 _ _ _ _ q) .nil Fr.refl q
  | cons h s t =>
    refine PE.weak (pe_cG FG xo.room xo.gd (gl_of xo hg) (by rw [xo.hmg]; exact h2) (by rw [xo.hK]; exact h3) (by rw [xo.hK]; exact h4) xo.pas (SndL.cons h s t).toPA (glB_ok hg).2 (star_each s) (star_any t.star)) fun σ H Q ⟨c, N, Oi, B, O, r, env, q⟩ => ?_
    unfold evE at q
    refine rd1L env q fun ws n vs H1 f1 env1 rws q1 => ?_
    rw [applyF_of h1] at q1
    exact sp_of env1 (by rw [rws.len]; exact h7 _ _ _ _ q1) rws f1 q1
/-- a call of a name of the def's own -/
theorem callL_any {i : Nat} (tk : TOk T kw) (xo : XOk T Nm sc Fn Ex X) (hN : X.N[i]? = some x) (hv : Vis X.env.scope x) (hd : (x == ("__debug__" : Str)) = false) (hcd : (x == ("__classdict__" : Str)) = false)
    (h : SndL T Ex X es ps) (hne : ps ≠ []) : PE X (.Call (.Name x p) ps [] pos) (rdE T Ex false (.callv i es)) := by
  refine ⟨fun pins s σ H Q I ⟨c, N, Oi, B, O, r, env, q⟩ => ?_⟩
  unfold evE at q
  have q := M.wp_bind.mp q
  have q : (getN r false i).wp N _ _ := q
  unfold getN at q
  split at q
  · rename_i w hw
    obtain ⟨v, g1, g2⟩ := env.sh i w hw
    obtain ⟨f, rfl, hlt, q⟩ := callW_wp (show (callW T.fs w _).wp N _ _ from q)
    cases h with
    | nil => exact absurd rfl hne
    | cons h s2 t =>
      have hlt2 : f < T.fn.length := by rw [tk.ln]; exact hlt
      obtain ⟨F, nn, fd, pps, h1, h2, h3, h4, h5, h6, h7, _⟩ := tk.fns f _ (List.getElem?_eq_getElem hlt2)
      have FG : FnG X.prog X.w X.K X.mg X.base T.k (T.fa f) fd pps (spM T nn F) := by rw [xo.hP, xo.hw, xo.hK, xo.hmg, xo.hbase]; exact h6
      cases g2
      refine (pe_cGL FG xo.room xo.gd hN hv (by rw [xo.hK]; exact h3) (by rw [xo.hK]; exact h4) xo.pas (SndL.cons h s2 t).toPA hd hcd (star_each s2) (star_any t.star)).run pins s σ H Q I ⟨g1, ?_⟩
      refine rd1L env q fun ws n vs H1 f1 env1 rws q1 => ?_
      rw [applyF_of h1] at q1
      exact sp_of env1 (by rw [rws.len]; exact h7 _ _ _ _ q1) rws f1 q1
  · split at q
    · rename_i hb; cases hb
    · exact q.elim
  · exact q.elim
theorem s_callv {i : Nat} (tk : TOk T kw) (xo : XOk T Nm sc Fn Ex X) (hN : X.N[i]? = some x) (hv : Vis X.env.scope x) (hd : (x == ("__debug__" : Str)) = false) (hcd : (x == ("__classdict__" : Str)) = false)
    (h : SndL T Ex X es ps) (hne : ps ≠ []) : Snd T Ex X (.callv i es) (.Call (.Name x p) ps [] pos) := .plain (fun _ => rfl) (callL_any tk xo hN hv hd hcd h hne) (by intro _; rfl)
/-! with names -/
theorem SndL.split : ∀ {es : EL} {ps qs : List Expr}, SndL T Ex X es (ps ++ qs) → ∃ e1 e2, SndL T Ex X e1 ps ∧ SndL T Ex X e2 qs ∧ (∀ fs gs r, evL fs gs r es = (evL fs gs r e1).bind fun ws => (evL fs gs r e2).bind fun zs => .ret (ws ++ zs))
  | es, [], qs, h => ⟨.nil, es, .nil, h, fun fs gs r => by
      show evL fs gs r es = (M.ret []).bind fun ws => (evL fs gs r es).bind fun zs => .ret (ws ++ zs)
      rw [M.bind_ret]
      have : ∀ m : M (List W), m = m.bind fun zs => .ret ([] ++ zs) := fun m => by
        induction m with
        | ret a => rfl
        | exc x => rfl
        | stuck => rfl
        | draw n k ih => show M.draw n k = M.draw n _; congr 1; funext i; exact ih i
      exact this _⟩
  | .cons e es, p :: ps, qs, .cons h s t => by
    obtain ⟨e1, e2, h1, h2, h3⟩ := SndL.split t
    refine ⟨.cons e e1, e2, .cons h s h1, h2, fun fs gs r => ?_⟩
    show (evE fs gs r false e).bind (fun w => (evL fs gs r es).bind fun ws => .ret (w :: ws)) = _
    rw [show evL fs gs r (.cons e e1) = (evE fs gs r false e).bind (fun w => (evL fs gs r e1).bind fun ws => .ret (w :: ws)) from rfl, M.bind_assoc]
    congr 1
    funext w
    rw [h3 fs gs r, M.bind_assoc, M.bind_assoc]
    congr 1
    funext ws
    rw [M.bind_assoc]
    rfl
theorem k_all : ∀ {es : EL} {kws : List Keyword}, SndL T Ex X es (kwEs kws) → PK X kws (rdL T Ex es)
  | _, [], h => by
    cases h
    exact ⟨fun pos pins s σ H Q I q => pk_nil.run pos pins s σ H Q I (by
      obtain ⟨c, N, Oi, B, O, r, env, q⟩ := q
      have q : FinL T c O H Q [] N := q
      exact q [] H Fr.refl env.st .nil)⟩
  | es, ⟨nm, e0, kp⟩ :: kws, h => by
    have h : SndL T Ex X es (e0 :: kwEs kws) := h
    cases h with
    | cons h s t =>
      exact ⟨fun pos pins s σ H Q I q => (pk_cons h.pf (k_all t)).run pos pins s σ H Q I (by
        obtain ⟨c, N, Oi, B, O, r, env, q⟩ := q
        unfold evL at q
        refine rd1 env q fun w n v H1 f1 env1 rb q1 => rd1L env1 q1 fun ws n2 vs H2 f2 env2 rws q2 => ?_
        have q2 : FinL T c O H Q (w :: ws) n2 := q2
        exact q2 (v :: vs) H2 (f1.trans f2) env2.st (.cons (rb.plain.mono (f2.hide env1.sO' env1.lO')) rws))⟩
theorem kw_len : ∀ {kws : List Keyword}, kwAll kws = true → (kwNames kws).length = kws.length ∧ (kwEs kws).length = kws.length
  | [], _ => ⟨rfl, rfl⟩
  | ⟨some x, e, p⟩ :: r, h => by
    have := kw_len (kws := r) h
    exact ⟨congrArg (· + 1) this.1, congrArg (· + 1) this.2⟩
  | ⟨none, e, p⟩ :: r, h => by cases h
theorem kw_facts {env : PySem.Env} {pos : Pos} : ∀ {kws : List Keyword}, kwAll kws = true → (backToKw pos (keywordEach kws env)).all (·.1.isSome) = true ∧ (backToKw pos (keywordEach kws env)).filterMap (·.1) = kwNames kws ∧ (backToKw pos (keywordEach kws env)).any (·.1.isNone) = false
  | [], _ => ⟨rfl, rfl, rfl⟩
  | ⟨some x, e, p⟩ :: r, h => by
    obtain ⟨h1, h2, h3⟩ := kw_facts (env := env) (pos := pos) (kws := r) h
    refine ⟨?_, ?_, ?_⟩
    · show (true && (backToKw pos (keywordEach r env)).all (·.1.isSome)) = true
      rw [h1]; rfl
    · show x :: (backToKw pos (keywordEach r env)).filterMap (·.1) = x :: kwNames r
      rw [h2]
    · show (false || (backToKw pos (keywordEach r env)).any (·.1.isNone)) = false
      rw [h3]; rfl
  | ⟨none, e, p⟩ :: r, h => by cases h
theorem perm_rel {K : Frag} {fa : Nat → Addr} {G : Hp} {vs : List V} {ws : List W} (h : RWs K fa c G vs ws) : ∀ {perm : List Nat} {us : List W}, permW ws perm = some us → RWs K fa c G (perm.map fun i => vs.getD i .non) us
  | [], us, q => by cases q; exact .nil
  | i :: is, us, q => by
    unfold permW at q
    cases h1 : ws[i]? with
    | none => rw [h1] at q; cases q
    | some w =>
      cases h2 : permW ws is with
      | none => rw [h1, h2] at q; cases q
      | some r =>
        rw [h1, h2] at q
        cases q
        refine .cons ?_ (perm_rel h h2)
        have : ∀ {vs : List V} {ws : List W} {i : Nat} {w : W}, RWs K fa c G vs ws → ws[i]? = some w → RW K fa c G (vs.getD i .non) w := by
          intro vs ws i w h
          induction h generalizing i with
          | nil => intro q; simp at q
          | cons h t ih =>
            intro q
            cases i with
            | zero => simp at q; subst q; exact h
            | succ i => simpa using ih (by simpa using q)
        exact this h h1
theorem RWs.append {K : Frag} {fa : Nat → Addr} {G : Hp} : ∀ {vs vs' : List V} {ws ws' : List W}, RWs K fa c G vs ws → RWs K fa c G vs' ws' → RWs K fa c G (vs ++ vs') (ws ++ ws')
  | _, _, _, _, .nil, q => q
  | _, _, _, _, .cons a t, q => .cons a (t.append q)
theorem permW_len {ws : List W} : ∀ {perm : List Nat} {us : List W}, permW ws perm = some us → us.length = perm.length
  | [], us, q => by cases q; rfl
  | i :: is, us, q => by
    unfold permW at q
    cases h1 : ws[i]? with
    | none => rw [h1] at q; cases q
    | some w =>
      cases h2 : permW ws is with
      | none => rw [h1, h2] at q; cases q
      | some r =>
        rw [h1, h2] at q
        cases q
        exact congrArg (· + 1) (permW_len h2)
theorem s_callk {f np : Nat} {ks : List Str} {perm : List Nat} {kws : List Keyword} (tk : TOk T kw) (xo : XOk T Nm sc Fn Ex X) (hf : T.fn[f]? = some x) (hg : glB sc x = true) (hm : (f, np, ks, perm) ∈ kw) (hks : kwNames kws = ks) (hall : kwAll kws = true) (hnp : ps.length = np)
    (h : SndL T Ex X es (ps ++ kwEs kws)) : Snd T Ex X (.callk f np ks perm es) (.Call (.Name x p) ps kws pos) := by
  obtain ⟨F, nn, fd, pps, h1, h2, h3, h4, h5, h6, h7, h8⟩ := tk.fns f x hf
  have FG : FnG X.prog X.w X.K X.mg X.base T.k (T.fa f) fd pps (spM T nn F) := by rw [xo.hP, xo.hw, xo.hK, xo.hmg, xo.hbase]; exact h6
  have KO : KwOk X.K fd pps np ks perm := by rw [xo.hK]; exact h8 _ hm rfl
  obtain ⟨e1, e2, g1, g2, g3⟩ := h.split
  obtain ⟨n1, n2⟩ := kw_len hall
  obtain ⟨k1, k2, k3⟩ := kw_facts (env := X.env) (pos := pos) hall
  have hlen : ∀ ws : List Value, ws.length = kws.length → ks.length = ws.length := fun ws hw => by rw [← hks, n1, hw]
  have hzl : ∀ σ H Q, rdL T Ex e2 σ H Q → rdL T Ex e2 σ H fun zs H' => zs.length = kws.length ∧ Q zs H' := fun σ H Q ⟨c, N, Oi, B, O, r, env, q⟩ =>
    ⟨c, N, Oi, B, O, r, env, M.wp_mono (fun ws n k vs H' f s rws => ⟨by rw [rws.len, k.1, ← g2.len, n2], k.2 vs H' f s rws⟩) (fun _ _ x => x) (evL_len q)⟩
  refine .plain (fun _ => rfl) ?_ (by intro _; rfl)
  have key : ∀ σ H Q, rdE T Ex false (.callk f np ks perm es) σ H Q → tCGK (spM T nn F) perm np Ex (rdL T Ex e1) (rdL T Ex e2) σ H Q := fun σ H Q ⟨c, N, Oi, B, O, r, env, q⟩ => by
    unfold evE at q
    rw [g3, M.bind_assoc] at q
    refine ⟨c, N, Oi, B, O, r, env, M.wp_mono (fun ws n q vs H1 f1 s1 rws => ?_) (fun _ _ x => x) (evL_len (M.wp_bind.mp q))⟩
    obtain ⟨hws, q⟩ := q
    have env1 := env.step f1 s1
    rw [M.bind_assoc] at q
    refine ⟨c, n, Oi, B, O, r, env1, M.wp_mono (fun zs n2 q zvs H2 f2 s2 rzs => ?_) (fun _ _ h => h.step f1) (M.wp_bind.mp q)⟩
    have env2 := env1.step f2 s2
    have q : (match permW (ws ++ zs) perm with
      | some vs => applyF T.fs f vs
      | none => .stuck : M W).wp n2 (Fin T c O H false Q) (EX T Ex c O H) := q
    cases hp : permW (ws ++ zs) perm with
    | none => rw [hp] at q; exact q.elim
    | some us =>
      rw [hp] at q
      have q : (applyF T.fs f us).wp n2 (Fin T c O H false Q) (EX T Ex c O H) := q
      rw [applyF_of h1] at q
      refine ⟨by rw [rws.len, hws, ← g1.len, hnp], ?_⟩
      have rw2 : RWs T.K T.fa c (hide O H2) (perm.map fun i => (vs ++ zvs).getD i .non) us := perm_rel ((rws.mono (f2.hide env1.sO' env1.lO')).append rzs) hp
      refine sp_of env2 (by rw [rw2.len]; exact h7 _ _ _ _ q) rw2 (f1.trans f2) (M.wp_mono (fun _ _ h => h) (fun x n h => h.step (f1.trans f2)) q)
  cases g1 with
  | nil =>
    have hz : np = 0 := by rw [← hnp]; rfl
    subst hz
    exact PE.weak (pe_cGK0 FG xo.room xo.gd (gl_of xo hg) (by rw [xo.hmg]; exact h2) (by rw [xo.hK]; exact h3) KO xo.pas (k_all g2) k1 (by rw [k2]; exact hks) hlen (glB_ok hg).2 (by rw [k3]; rfl) hzl) fun σ H Q h => by
      obtain ⟨c, N, Oi, B, O, r, env, q⟩ := key σ H Q h
      have q : FinL T c O H _ [] N := q
      exact q [] H Fr.refl env.st .nil
  | cons hh s2 t =>
    exact PE.weak (pe_cGK FG xo.room xo.gd (gl_of xo hg) (by rw [xo.hmg]; exact h2) (by rw [xo.hK]; exact h3) KO xo.pas (SndL.cons hh s2 t).toPA (k_all g2) k1 (by rw [k2]; exact hks) hlen (glB_ok hg).2 (star_each s2)
      (by rw [k3, Bool.or_false]; exact star_any (SndL.cons hh s2 t).star) hzl) key
end
end
end DS

set_option Elab.async false
set_option linter.all false
set_option autoImplicit false
set_option maxRecDepth 100000
set_option maxHeartbeats 4000000
/-! DS10: built-ins called by name; what loops walk. -/
namespace DS
open PySem PySem.Spec PySem.SeqAt PyProof.Rows L2
section
variable {T : Stc} {Ex : XK} {X : Cx} {e a b d : E} {es : EL} {ps : List Expr} {pe pa pb pd : Expr} {pos p : Pos} {c : StA} {O Oi : List Addr} {H H1 B : Hp} {N n : Nat} {σ : L2.St} {r : Env} {Q : VK} {x : Str}
  {kw : List (Nat × Nat × List Str × List Nat)} {Nm : List Str} {sc : Scope} {Fn : Str → Bool}
/-- one borrowed argument -/
theorem arg1 (ha : Snd T Ex X a pa) (hs : star pa = false) : PA X [pa] (tCons (rdE T Ex true a) tNil) := pa_cons ha.pt pa_nil (star_each hs)
theorem arg1f (ha : Snd T Ex X a pa) (hs : star pa = false) : PA X [pa] (tCons (rdE T Ex false a) tNil) := pa_cons ha.pf pa_nil (star_each hs)
theorem b1_key {f : W → Option W} (q : ((evE T.fs T.gs r true a).bind fun x => opt (f x)).wp N (Fin T c O H false Q) (EX T Ex c O H)) (env : EOk T c N Oi B O H σ r) : tCB (rB1 T f) (tCons (rdE T Ex true a) tNil) σ H Q := by
  refine rd1 env q fun x n v H1 f1 env1 rb q1 => ?_
  obtain ⟨w, hw, q2⟩ := opt_wp q1
  exact ⟨v, c, O, true, x, w, rfl, env1.at, rb, hw, (fin_ans env1 f1 q2).f⟩
theorem mgn (tk : TOk T kw) (xo : XOk T Nm sc Fn Ex X) (h : x ∈ bnames) : X.mg x = none := by rw [xo.hmg]; exact tk.bn x h
theorem cr_range1 : CallR X (.type "range") (fun vs H Q => ∃ j, vs = [V.int j] ∧ ∀ p, H p = none → Q (.ref p) (upd H p (.rng 0 j))) := by
  intro pins s σ H vs us Q I r h
  obtain ⟨j, rfl, q⟩ := h
  obtain ⟨u1, rfl, ri⟩ := vals1 r
  obtain ⟨t, rfl⟩ := ri
  refine call_range_1 ⟨.ref s.heap.objs.size, upd H s.heap.objs.size (.rng 0 j), I.laid (t' := _) (fun b o e => Heap.get?_push_of_some _ e) (Nat.le_refl _) ?_, rfl, q _ (I.hok.fresh (Nat.le_refl _))⟩
  exact ⟨_, t, _, Heap.get?_push_size _ rfl⟩
theorem items_vals {lo : Int} {n : Nat} {acc : Array Value} (h : ItemsOf (fun i v => ∃ t, v = Value.int (lo + i * 1) t) acc n) : Vals ((List.range n).map fun (k : Nat) => V.int (lo + (k : Int))) acc.toList := by
  have hl : acc.toList.length = n := by rw [Array.length_toList]; exact h.1
  have go : ∀ (l : List Value) (k : Nat), (∀ j v, l[j]? = some v → ∃ t, v = Value.int (lo + ((k + j : Nat) : Int)) t) → Vals ((List.range' k l.length).map fun (k : Nat) => V.int (lo + (k : Int))) l := by
    intro l
    induction l with
    | nil => intro k _; exact .nil
    | cons v l ih =>
      intro k hk
      rw [List.length_cons, List.range'_succ, List.map_cons]
      refine .cons ?_ (ih (k + 1) fun j v hv => ?_)
      · obtain ⟨t, e⟩ := hk 0 v rfl
        exact ⟨t, e⟩
      · obtain ⟨t, e⟩ := hk (j + 1) v (by simpa using hv)
        exact ⟨t, by rw [e]; congr 2; omega⟩
  rw [List.range_eq_range', ← hl]
  refine go acc.toList 0 fun j v hv => ?_
  obtain ⟨t, e⟩ := h.2 j v (by rw [← Array.getElem?_toList]; exact hv)
  exact ⟨t, by rw [e]; congr 2 <;> omega⟩
theorem call_list_rng (hc : X.calm = true) : CallR X (.type "list") (fun vs H Q => ∃ a hi, vs = [V.ref a] ∧ H a = some (.rng 0 hi) ∧ 0 ≤ hi ∧ hi ≤ cap ∧ ∀ l, H l = none → Q (.ref l) (upd H l (.lst ((List.range hi.toNat).map fun (k : Nat) => V.int (0 + (k : Int)))))) := by
  intro pins s σ H vs us Q I r h
  obtain ⟨a, hi, rfl, ha, h0, h1, q⟩ := h
  obtain ⟨u1, rfl, ri⟩ := vals1 r
  cases ri
  obtain ⟨t, u, v, ho⟩ := I.hok a _ ha
  have hcap : cap = 100000 := rfl
  refine call_list_range (n := hi.toNat) (I.ok.hd hc) (show IsRange s.heap a 0 hi 1 t u v from ho) (small_one (by omega) (by omega) (by omega) (by omega)) (by rw [rangeSize_one]; split <;> omega) (by omega) fun h' tk acc c' hk e hi2 => ?_
  have hv := items_vals hi2
  refine ⟨.ref s.heap.objs.size, upd H s.heap.objs.size (.lst _), I.laid (t' := tk) hk (Nat.le_refl _) ?_, rfl, q _ (I.hok.fresh (Nat.le_refl _))⟩
  refine ⟨?_, acc.toList, c', hv, by simpa using e⟩
  rw [List.length_map, List.length_range, sizeLine_eq]
  omega
theorem rng_rel {K : Frag} {G : Hp} (m : Nat) : RDs K G ((List.range m).map fun (k : Nat) => V.int (0 + (k : Int))) ((List.range m).map fun (k : Nat) => PyData.int (k : Int)) := by
  have e : ((List.range m).map fun (k : Nat) => V.int (0 + (k : Int))) = ((List.range m).map fun (k : Nat) => (k : Int)).map V.int := by rw [List.map_map]; congr 1; funext k; show V.int (0 + (k : Int)) = V.int (k : Int); congr 1; omega
  have e2 : ((List.range m).map fun (k : Nat) => PyData.int (k : Int)) = ((List.range m).map fun (k : Nat) => (k : Int)).map PyData.int := by rw [List.map_map]; rfl
  rw [e, e2]
  exact .of_ints _
theorem s_b1 {bb : B1} (tk : TOk T kw) (xo : XOk T Nm sc Fn Ex X) (ha : Snd T Ex X a pa) (hs : star pa = false) (hg : glB sc (b1N bb) = true) (hb : bb ≠ .listRange) : Snd T Ex X (.b1 bb a) (.Call (.Name (b1N bb) p) [pa] [] pos) := by
  refine .plain (fun _ => rfl) ?_ (by intro _; rfl)
  have G := gl_of xo hg
  cases bb with
  | len => exact PE.weak (pe_callB (call_len_w (T := T) xo.hK) G (mgn tk xo (by decide)) (by decide +kernel) (arg1 ha hs) (by decide) (by decide) (star_each hs) rfl) fun σ H Q ⟨c, N, Oi, B, O, r, env, q⟩ => b1_key (f := lenW) (by unfold evE at q; exact q) env
  | tuple => exact PE.weak (pe_callTy (call_tuple_w (T := T) xo.hK) G (mgn tk xo (by decide)) (by decide +kernel) (arg1 ha hs) (by decide) (by decide) (star_each hs) rfl) fun σ H Q ⟨c, N, Oi, B, O, r, env, q⟩ => b1_key (f := tupleW) (by unfold evE at q; exact q) env
  | list => exact PE.weak (pe_callTy (call_list_w (T := T) xo.hK) G (mgn tk xo (by decide)) (by decide +kernel) (arg1 ha hs) (by decide) (by decide) (star_each hs) rfl) fun σ H Q ⟨c, N, Oi, B, O, r, env, q⟩ => b1_key (f := listW) (by unfold evE at q; exact q) env
  | sorted => exact PE.weak (pe_callB (call_sorted_w (T := T) xo.calm) G (mgn tk xo (by decide)) (by decide +kernel) (arg1 ha hs) (by decide) (by decide) (star_each hs) rfl) fun σ H Q ⟨c, N, Oi, B, O, r, env, q⟩ => b1_key (f := sortedW) (by unfold evE at q; exact q) env
  | sum => exact PE.weak (pe_callB (call_sum_w (T := T) xo.calm) G (mgn tk xo (by decide)) (by decide +kernel) (arg1 ha hs) (by decide) (by decide) (star_each hs) rfl) fun σ H Q ⟨c, N, Oi, B, O, r, env, q⟩ => b1_key (f := sumW) (by unfold evE at q; exact q) env
  | int => exact PE.weak (pe_callTy (call_int_w (T := T)) G (mgn tk xo (by decide)) (by decide +kernel) (arg1 ha hs) (by decide) (by decide) (star_each hs) rfl) fun σ H Q ⟨c, N, Oi, B, O, r, env, q⟩ => b1_key (f := intW) (by unfold evE at q; exact q) env
  | listRange => exact absurd rfl hb
/-- list(range(n)), by what is wanted of its answer -/
def tLR (T : Stc) (te : TE) : TE := fun σ H Q => te σ H fun v H1 => ∃ m c O, v = .int m ∧ At T c O H1 ∧ 0 ≤ m ∧ m ≤ cap ∧ AnsF T c O H1 (.d (.list ((List.range m.toNat).map fun (k : Nat) => PyData.int (k : Int)))) Q
theorem pe_lr {p2 pos2 : Pos} {bw : Bool} (tk : TOk T kw) (xo : XOk T Nm sc Fn Ex X) (ha : PE X pa (rdE T Ex bw a)) (hs : star pa = false) (hg : glB sc "list" = true) (hg2 : glB sc "range" = true) : PE X (.Call (.Name "list" p) [.Call (.Name "range" p2) [pa] [] pos2] [] pos) (tLR T (rdE T Ex bw a)) := by
  refine PE.weak (pe_callTy (call_list_rng xo.calm) (gl_of xo hg) (mgn tk xo (by decide)) (by decide +kernel) (pa_cons (pe_callTy (X := X) cr_range1 (gl_of xo hg2) (mgn tk xo (by decide)) (by decide +kernel) (pa_cons ha pa_nil (star_each hs)) (by decide) (by decide) (star_each hs) rfl) pa_nil rfl) (by decide) (by decide) rfl rfl) fun σ H Q h => ?_
  obtain ⟨c0, N, Oi, B, O0, r, env, h⟩ := h
  refine ⟨c0, N, Oi, B, O0, r, env, M.wp_mono (fun w n k v H1 f s rb => ?_) (fun _ _ x => x) h⟩
  obtain ⟨m, c, O, rfl, e, h0, h1, an⟩ := k v H1 f s rb
  refine ⟨m, rfl, fun p1 hp1 => ⟨p1, m, rfl, upd_same, h0, h1, fun l hl => ?_⟩⟩
  have hne : l ≠ p1 := fun z => by rw [z, upd_same] at hl; cases hl
  have hl1 : H1 l = none := by rw [upd_ne hne] at hl; exact hl
  have s1 : Same H1 (upd H1 p1 (.rng 0 m)) := same_new hp1
  refine an _ _ (s1.trans (same_new hl)) ⟨.d (.lst (by rw [hide_out (e.fresh hl1)]; exact upd_same) (rng_rel _)), fun _ => ⟨l, rfl, hl1, .lst upd_same (rng_rel _)⟩⟩
theorem lr_key (q : (evE T.fs T.gs r false (.b1 .listRange a)).wp N (fun w n => ∀ H1, Fr c H H1 → StOk c n H1 → AnsF T c O H1 w Q) (EX T Ex c O H)) (env : EOk T c N Oi B O H σ r) : tLR T (rdE T Ex true a) σ H Q := by
  unfold evE at q
  refine rd1 env q fun x n v H1 f1 env1 rb q1 => ?_
  obtain ⟨w, hw, q2⟩ := opt_wp q1
  have hw : rangeW x = some w := hw
  unfold rangeW at hw
  split at hw
  · rename_i m _
    obtain ⟨⟨h0, h1⟩, hw⟩ := if_some hw
    subst hw
    exact ⟨m, c, O, rb.int, env1.at, h0, h1, q2 H1 f1 env1.st⟩
  · cases hw
theorem s_lr {p2 pos2 : Pos} (tk : TOk T kw) (xo : XOk T Nm sc Fn Ex X) (ha : Snd T Ex X a pa) (hs : star pa = false) (hg : glB sc "list" = true) (hg2 : glB sc "range" = true) : Snd T Ex X (.b1 .listRange a) (.Call (.Name "list" p) [.Call (.Name "range" p2) [pa] [] pos2] [] pos) := by
  refine .plain (fun _ => rfl) ?_ (by intro _; rfl)
  exact PE.weak (pe_lr tk xo ha.pt hs hg hg2) fun σ H Q ⟨c, N, Oi, B, O, r, env, q⟩ => lr_key (M.wp_mono (fun w n h H1 f s => (fin_ans (env.step f s) f h).f) (fun _ _ x => x) q) env
theorem s_isi {t : Ty} {pt : Expr} (tk : TOk T kw) (xo : XOk T Nm sc Fn Ex X) (ha : Snd T Ex X a pa) (hs : star pa = false) (hg : glB sc "isinstance" = true) (ht : tyX sc t pt = true) : Snd T Ex X (.isi a t) (.Call (.Name "isinstance" p) [pa, pt] [] pos) := by
  unfold tyX at ht
  split at ht
  · rename_i y py
    simp only [Bool.and_eq_true, decide_eq_true_eq] at ht
    obtain ⟨rfl, hg2⟩ := ht
    refine .plain (fun _ => rfl) ?_ (by intro _; rfl)
    have hty : PE X (.Name (Str.ofString (tyN t)) py) (tC (.ty (tyN t))) := by
      have G := gl_of xo hg2
      cases t <;> exact pe_bltn (u := .type (tyN _)) G (mgn tk xo (by decide)) (by decide +kernel) rfl (by decide) (by decide)
    have hst : starEach [.Name (Str.ofString (tyN t)) py] X.env = [(false, eval (.Name (Str.ofString (tyN t)) py) X.env)] := rfl
    refine PE.weak (pe_callB (call_isi_w (T := T) t xo.hK) (gl_of xo hg) (mgn tk xo (by decide)) (by decide +kernel) (pa_cons ha.pt (pa_cons hty pa_nil rfl) (star_each hs)) (by decide) (by decide) (star_each hs) rfl) fun σ H Q ⟨c, N, Oi, B, O, r, env, q⟩ => ?_
    unfold evE at q
    refine rd1 env q fun x n v H1 f1 env1 rb q1 => ?_
    obtain ⟨k, hk, q2⟩ := opt_wp (M.wp_bind.mp q1)
    exact ⟨v, c, O, true, x, k, rfl, rb, hk, (fin_ans env1 f1 q2).bool⟩
  · cases ht
end
end DS

set_option Elab.async false
set_option linter.all false
set_option autoImplicit false
set_option maxRecDepth 100000
set_option maxHeartbeats 4000000
/-! DS11: what loops walk. -/
namespace DS
open PySem PySem.Spec PySem.SeqAt PyProof.Rows L2
/-- the iterator J yields the items ws, whatever is made or changed that is not seen -/
structure JOk (T : Stc) (c : StA) (G : Hp) (J : L2.It) (ws : List W) : Prop where
  go : ∀ (i : Nat) O' H, Same G (hide O' H) → i < ws.length → J.go i H
  yl : ∀ (i : Nat) O' H x H', i < ws.length → Same G (hide O' H) → (∀ b ∈ O', ∃ o, H b = some o) → J.yld i H x H' → ∃ w, ws[i]? = some w ∧ Same H H' ∧ RW T.K T.fa c (hide O' H') x w
  st : ∀ (i : Nat) O' H, Same G (hide O' H) → ws.length = i → J.stop i H
def FinI (T : Stc) (c : StA) (O : List Addr) (H : Hp) (R : L2.It → Hp → Prop) : List W → Nat → Prop := fun ws n => ∀ J H1, Fr c H H1 → StOk c n H1 → JOk T c (hide O H1) J ws → R J H1
def rdI (T : Stc) (Ex : XK) (it : It) : TI := fun σ H R => ∃ c N Oi B O r, EOk T c N Oi B O H σ r ∧ (evI T.fs T.gs r it).wp N (FinI T c O H R) (EX T Ex c O H)
theorem PI.weak {X : Cx} {tg pe : Expr} {t t' : TI} (h : PI X tg pe t) (i : ∀ σ H R, t' σ H R → t σ H R) : PI X tg pe t' := ⟨fun pins s σ H R I q => h.run pins s σ H R I (i σ H R q)⟩
section
variable {T : Stc} {Ex : XK} {X : Cx} {e a b d : E} {tg pe pa pb pd : Expr} {pos p : Pos} {c : StA} {O Oi : List Addr} {G H H1 B : Hp} {N n : Nat} {σ : L2.St} {r : Env} {x : Str} {R : L2.It → Hp → Prop}
  {kw : List (Nat × Nat × List Str × List Nat)} {Nm : List Str} {sc : Scope} {Fn : Str → Bool}
theorem sqL_same {K : Frag} {H H' : Hp} {a : Addr} {xs : List V} (e : Same H H') (h : H a = some (.lst xs)) : SqL K H' a xs := .inl (.inl (e _ _ h))
theorem rds_map {K : Frag} {xs : List V} {ds : List PyData} {i : Nat} {v : V} {fa : Nat → Addr} (h : RDs K G xs ds) (e : xs[i]? = some v) : ∃ w, (ds.map W.d)[i]? = some w ∧ RW K fa c G v w := by
  obtain ⟨d, h1, h2⟩ := h.get' e
  exact ⟨.d d, by rw [List.getElem?_map, h1]; rfl, .d h2⟩
theorem get_lt {α : Type} {xs : List α} {i : Nat} (h : i < xs.length) : ∃ x, xs[i]? = some x := ⟨_, List.getElem?_eq_getElem h⟩
theorem j_list {l : Addr} {xs : List V} {ds : List PyData} (hl : G l = some (.lst xs)) (hr : RDs T.K G xs ds) : JOk T c G (Itl T.K l) (ds.map .d) where
  go := fun i O' H s hi => by
    obtain ⟨x, hx⟩ := get_lt (xs := xs) (i := i) (by rw [hr.len]; simpa using hi)
    exact ⟨xs, x, sqL_same (s.trans hide_le) hl, hx⟩
  yl := fun i O' H x H' hi s ht ⟨e, h⟩ => by
    subst e
    obtain ⟨w, h1, h2⟩ := rds_map (fa := T.fa) (c := c) hr (h xs (sqL_same (s.trans hide_le) hl))
    exact ⟨w, h1, Same.refl _, h2.mono s⟩
  st := fun i O' H s hi' => have hi := Nat.le_of_eq hi'; ⟨xs, sqL_same (s.trans hide_le) hl, by rw [hr.len]; simpa using hi⟩
theorem j_tup {l : Addr} {xs : List V} {ds : List PyData} (hl : SqT T.K G l xs) (hr : RDs T.K G xs ds) : JOk T c G (Itt T.K l) (ds.map .d) where
  go := fun i O' H s hi => by
    obtain ⟨x, hx⟩ := get_lt (xs := xs) (i := i) (by rw [hr.len]; simpa using hi)
    exact ⟨xs, x, sqT_same (s.trans hide_le) hl, hx⟩
  yl := fun i O' H x H' hi s ht ⟨e, h⟩ => by
    subst e
    obtain ⟨w, h1, h2⟩ := rds_map (fa := T.fa) (c := c) hr (h xs (sqT_same (s.trans hide_le) hl))
    exact ⟨w, h1, Same.refl _, h2.mono s⟩
  st := fun i O' H s hi' => have hi := Nat.le_of_eq hi'; ⟨xs, sqT_same (s.trans hide_le) hl, by rw [hr.len]; simpa using hi⟩
theorem j_rng {lo : Int} {m : Nat} : JOk T c G (Itr lo m) ((List.range m).map fun (k : Nat) => W.i (lo + (k : Int))) where
  go := fun i O' H s hi => show i < m by simpa using hi
  yl := fun i O' H x H' hi s ht ⟨e, h⟩ => by
    subst e
    subst h
    refine ⟨W.i (lo + (i : Int)), ?_, Same.refl _, .d (.int _)⟩
    have hi : i < m := by simpa using hi
    rw [List.getElem?_map, List.getElem?_range hi]
    rfl
  st := fun i O' H s hi' => have hi := Nat.le_of_eq hi'; show m ≤ i by simpa using hi
theorem rev_get {α : Type} {xs : List α} {i : Nat} (h : i < xs.length) : xs.reverse[i]? = xs[xs.length - 1 - i]? := List.getElem?_reverse h
theorem j_revL {l : Addr} {xs : List V} {ds : List PyData} (hl : G l = some (.lst xs)) (hr : RDs T.K G xs ds) : JOk T c G (Itv T.K l xs.length) (ds.reverse.map .d) where
  go := fun i O' H s hi => by
    have hi : i < xs.length := by rw [hr.len]; simpa using hi
    obtain ⟨x, hx⟩ := get_lt (xs := xs) (i := xs.length - 1 - i) (by omega)
    exact ⟨hi, xs, x, sqL_same (s.trans hide_le) hl, hx⟩
  yl := fun i O' H x H' hi s ht ⟨e, h⟩ => by
    subst e
    have hi : i < xs.length := by rw [hr.len]; simpa using hi
    obtain ⟨w, h1, h2⟩ := hr.get' (h xs (sqL_same (s.trans hide_le) hl))
    refine ⟨.d w, ?_, Same.refl _, (RW.d h2).mono s⟩
    rw [List.getElem?_map, rev_get (by rw [← hr.len]; exact hi), ← hr.len, h1]
    rfl
  st := fun i O' H s hi' => have hi := Nat.le_of_eq hi'; show xs.length ≤ i by rw [hr.len]; simpa using hi
theorem j_revT {l : Addr} {xs : List V} {ds : List PyData} (hl : SqT T.K G l xs) (hr : RDs T.K G xs ds) : JOk T c G (RT.ItvT T.K l xs.length) (ds.reverse.map .d) where
  go := fun i O' H s hi => by
    have hi : i < xs.length := by rw [hr.len]; simpa using hi
    obtain ⟨x, hx⟩ := get_lt (xs := xs) (i := xs.length - 1 - i) (by omega)
    exact ⟨hi, xs, x, sqT_same (s.trans hide_le) hl, hx⟩
  yl := fun i O' H x H' hi s ht ⟨e, h⟩ => by
    subst e
    have hi : i < xs.length := by rw [hr.len]; simpa using hi
    obtain ⟨w, h1, h2⟩ := hr.get' (h xs (sqT_same (s.trans hide_le) hl))
    refine ⟨.d w, ?_, Same.refl _, (RW.d h2).mono s⟩
    rw [List.getElem?_map, rev_get (by rw [← hr.len]; exact hi), ← hr.len, h1]
    rfl
  st := fun i O' H s hi' => have hi := Nat.le_of_eq hi'; show xs.length ≤ i by rw [hr.len]; simpa using hi
theorem enum_get {ds : List PyData} {i : Nat} : (enumD ds)[i]? = (ds[i]?).map fun d => W.d (.tuple [.int (i : Nat), d]) := by
  unfold enumD
  rw [List.getElem?_map, List.getElem?_zipIdx]
  cases ds[i]? with
  | none => rfl
  | some d => simp
theorem enum_len {ds : List PyData} : (enumD ds).length = ds.length := by unfold enumD; simp
/-- a new pair -/
theorem pair_new {O' : List Addr} {q : Addr} {v1 v2 : V} {d1 d2 : PyData} {fa : Nat → Addr} (hq : H q = none) (ht : ∀ b ∈ O', ∃ o, H b = some o) (h1 : RD T.K (hide O' H) v1 d1) (h2 : RD T.K (hide O' H) v2 d2) : RW T.K fa c (hide O' (upd H q (.tup [v1, v2]))) (.ref q) (.d (.tuple [d1, d2])) := by
  have hO : q ∉ O' := fun z => by
    obtain ⟨o, ho⟩ := ht q z
    rw [hq] at ho; cases ho
  exact mk_tup hq hO (.cons h1 (.cons h2 .nil))
theorem j_enumL {l : Addr} {xs : List V} {ds : List PyData} (hl : G l = some (.lst xs)) (hr : RDs T.K G xs ds) : JOk T c G (Ite T.K l) (enumD ds) where
  go := fun i O' H s hi => by
    obtain ⟨x, hx⟩ := get_lt (xs := xs) (i := i) (by rw [hr.len]; rwa [enum_len] at hi)
    exact ⟨xs, x, sqL_same (s.trans hide_le) hl, hx⟩
  yl := fun i O' H x H' hi s ht ⟨q, y, e1, hq, e2, h⟩ => by
    subst e1 e2
    obtain ⟨d, h1, h2⟩ := hr.get' (h xs (sqL_same (s.trans hide_le) hl))
    exact ⟨.d (.tuple [.int (i : Nat), d]), by rw [enum_get, h1]; rfl, same_new hq, pair_new hq ht (.int _) (RD.mono s _ _ h2)⟩
  st := fun i O' H s hi' => have hi := Nat.le_of_eq hi'; ⟨xs, sqL_same (s.trans hide_le) hl, by rw [hr.len]; rwa [enum_len] at hi⟩
theorem zip_get {ds es : List PyData} {i : Nat} {d e : PyData} (h1 : ds[i]? = some d) (h2 : es[i]? = some e) : ((ds.zip es).map fun p => W.d (.tuple [p.1, p.2]))[i]? = some (W.d (.tuple [d, e])) := by
  rw [List.getElem?_map]
  have : (ds.zip es)[i]? = some (d, e) := by rw [List.getElem?_zip_eq_some]; exact ⟨h1, h2⟩
  rw [this]
  rfl
theorem j_zipL {l m : Addr} {xs ys : List V} {ds es : List PyData} (hl : G l = some (.lst xs)) (hr : RDs T.K G xs ds) (hm : G m = some (.lst ys)) (hs : RDs T.K G ys es) : JOk T c G (Itz T.K l m) ((ds.zip es).map fun p => W.d (.tuple [p.1, p.2])) where
  go := fun i O' H s hi => by
    have hi : i < ds.length ∧ i < es.length := by
      simp at hi
      omega
    obtain ⟨x, hx⟩ := get_lt (xs := xs) (i := i) (by rw [hr.len]; exact hi.1)
    obtain ⟨y, hy⟩ := get_lt (xs := ys) (i := i) (by rw [hs.len]; exact hi.2)
    exact ⟨xs, ys, x, y, sqL_same (s.trans hide_le) hl, sqL_same (s.trans hide_le) hm, hx, hy⟩
  yl := fun i O' H x H' hi s ht ⟨q, y, z, e1, hq, e2, g1, g2⟩ => by
    subst e1 e2
    obtain ⟨d, h1, h2⟩ := hr.get' (g1 xs (sqL_same (s.trans hide_le) hl))
    obtain ⟨e, h3, h4⟩ := hs.get' (g2 ys (sqL_same (s.trans hide_le) hm))
    exact ⟨_, zip_get h1 h3, same_new hq, pair_new hq ht (RD.mono s _ _ h2) (RD.mono s _ _ h4)⟩
  st := fun i O' H s hi' => have hi := Nat.le_of_eq hi'; ⟨xs, ys, sqL_same (s.trans hide_le) hl, sqL_same (s.trans hide_le) hm, by rw [hr.len, hs.len]; simp at hi; omega⟩
theorem j_zipT {l m : Addr} {xs ys : List V} {ds es : List PyData} (hl : SqT T.K G l xs) (hr : RDs T.K G xs ds) (hm : SqT T.K G m ys) (hs : RDs T.K G ys es) : JOk T c G (RZ.ItzT T.K l m) ((ds.zip es).map fun p => W.d (.tuple [p.1, p.2])) where
  go := fun i O' H s hi => by
    have hi : i < ds.length ∧ i < es.length := by
      simp at hi
      omega
    obtain ⟨x, hx⟩ := get_lt (xs := xs) (i := i) (by rw [hr.len]; exact hi.1)
    obtain ⟨y, hy⟩ := get_lt (xs := ys) (i := i) (by rw [hs.len]; exact hi.2)
    exact ⟨xs, ys, x, y, sqT_same (s.trans hide_le) hl, sqT_same (s.trans hide_le) hm, hx, hy⟩
  yl := fun i O' H x H' hi s ht ⟨q, y, z, e1, hq, e2, g1, g2⟩ => by
    subst e1 e2
    obtain ⟨d, h1, h2⟩ := hr.get' (g1 xs (sqT_same (s.trans hide_le) hl))
    obtain ⟨e, h3, h4⟩ := hs.get' (g2 ys (sqT_same (s.trans hide_le) hm))
    exact ⟨_, zip_get h1 h3, same_new hq, pair_new hq ht (RD.mono s _ _ h2) (RD.mono s _ _ h4)⟩
  st := fun i O' H s hi' => have hi := Nat.le_of_eq hi'; ⟨xs, ys, sqT_same (s.trans hide_le) hl, sqT_same (s.trans hide_le) hm, by rw [hr.len, hs.len]; simp at hi; omega⟩

/-! ### the text's iterables -/
theorem rw_lst {v : V} {ds : List PyData} (h : RW T.K T.fa c G v (.d (.list ds))) : ∃ a xs, v = .ref a ∧ G a = some (.lst xs) ∧ RDs T.K G xs ds := by
  cases h with | d h => cases h with | lst h1 h2 => exact ⟨_, _, rfl, h1, h2⟩
theorem rw_tup {v : V} {ds : List PyData} (h : RW T.K T.fa c G v (.d (.tuple ds))) : ∃ a xs, v = .ref a ∧ SqT T.K G a xs ∧ RDs T.K G xs ds := by
  cases h with | d h => cases h with | tup h1 h2 => exact ⟨_, _, rfl, h1, h2⟩
theorem fin_it {J : L2.It} {ws : List W} (env : EOk T c n Oi B O H1 σ r) (f : Fr c H H1) (h : FinI T c O H R ws n) (j : JOk T c (hide O H1) J ws) : R J H1 := h J H1 f env.st j
/-- a list or a tuple, as the value is -/
theorem i_of (xo : XOk T Nm sc Fn Ex X) (ha : Snd T Ex X a pa) : PI X tg pa (rdI T Ex (.of a)) := by
  refine ⟨fun pins s σ H R I ⟨c, N, Oi, B, O, r, env, q⟩ => ?_⟩
  unfold evI at q
  refine thn (ha.pf.run pins s σ H (fun x H1 => ∃ l xs, x = .ref l ∧ ((SqL X.K H1 l xs ∧ R (Itl X.K l) H1) ∨ (SqT X.K H1 l xs ∧ R (Itt X.K l) H1))) I (rd1 env q fun x n v H1 f1 env1 rb q1 => ?_)) fun v s1 hq => ?_
  · obtain ⟨ws, hw, q2⟩ := opt_wp q1
    rw [xo.hK]
    unfold itOf at hw
    split at hw
    · cases hw
      obtain ⟨l, xs, e, h1, h2⟩ := rw_lst rb.plain
      exact ⟨l, xs, e, .inl ⟨.inl (.inl (hide_le _ _ h1)), fin_it env1 f1 q2 (j_list h1 h2)⟩⟩
    · cases hw
      obtain ⟨l, xs, e, h1, h2⟩ := rw_tup rb.plain
      exact ⟨l, xs, e, .inr ⟨sqT_same hide_le h1, fin_it env1 f1 q2 (j_tup h1 h2)⟩⟩
    · cases hw
  · obtain ⟨x, H1, I1, r1, l, xs, rfl, hq⟩ := hq
    cases r1
    have fp : ∀ b ∈ [s1.heap.objs.size], FpOk X pins H1 b := fun b hb => by
      have e : b = s1.heap.objs.size := by simpa using hb
      subst e
      exact I1.fpOk (Nat.le_refl _) (I1.hok.fresh (Nat.le_refl _))
    rcases hq with ⟨h1, h2⟩ | ⟨h1, h2⟩
    · obtain ⟨its, rv, p, hz⟩ := I1.list h1
      exact wpAny_pyIter_list p.isList ⟨s1.heap.objs.size, [s1.heap.objs.size], _, _, H1, rfl, I1.kept (t' := s1.toks) fun b o e => Heap.get?_push_of_some _ e, turn_list l _, ⟨_, Heap.get?_push_size _ rfl, rfl, rfl⟩, fp, h2⟩
    · obtain ⟨its, rv, p, hz⟩ := I1.tuple h1
      exact wpAny_pyIter_tuple (show s1.heap.IsTuple l its.toArray from p) ⟨s1.heap.objs.size, [s1.heap.objs.size], _, _, H1, rfl, I1.kept (t' := s1.toks) fun b o e => Heap.get?_push_of_some _ e, turn_tuple l _, ⟨_, Heap.get?_push_size _ rfl, rfl, rfl⟩, fp, h2⟩
theorem i_rng1 (tk : TOk T kw) (xo : XOk T Nm sc Fn Ex X) (ha : Snd T Ex X a pa) (hs : star pa = false) (hg : glB sc "range" = true) : PI X tg (.Call (.Name "range" p) [pa] [] pos) (rdI T Ex (.rng1 a)) :=
  PI.weak (pi_range1 (gl_of xo hg) (mgn tk xo (by decide)) (pa_cons ha.pf pa_nil (star_each hs)) (star_each hs)) fun σ H R ⟨c, N, Oi, B, O, r, env, q⟩ => by
    unfold evI at q
    refine rd1 env q fun x n v H1 f1 env1 rb q1 => ?_
    obtain ⟨j, hj, q2⟩ := opt_wp (M.wp_bind.mp q1)
    obtain ⟨ws, hw, q3⟩ := opt_wp q2
    rw [wInt_some hj] at rb
    obtain ⟨⟨h1, h2, h3, h4⟩, hw⟩ := if_some (show (if _ then _ else _) = _ from hw)
    subst hw
    refine ⟨j, by rw [rb.int], h3, h4, ?_⟩
    have := fin_it env1 f1 q3 (j_rng (lo := 0))
    rwa [Int.sub_zero] at this
theorem i_rng2 (tk : TOk T kw) (xo : XOk T Nm sc Fn Ex X) (ha : Snd T Ex X a pa) (hs : star pa = false) (hb : Snd T Ex X b pb) (hs2 : star pb = false) (hg : glB sc "range" = true) : PI X tg (.Call (.Name "range" p) [pa, pb] [] pos) (rdI T Ex (.rng2 a b)) :=
  PI.weak (pi_range2 (gl_of xo hg) (mgn tk xo (by decide)) (pa_cons ha.pf (pa_cons hb.pf pa_nil (star_each hs2)) (star_each hs)) (by rw [star_each hs, star_each hs2]; rfl) (star_each hs2)) fun σ H R ⟨c, N, Oi, B, O, r, env, q⟩ => by
    unfold evI at q
    refine rd1 env q fun x n v H1 f1 env1 rb q1 => rd1 env1 q1 fun y n2 v2 H2 f2 env2 rb2 q2 => ?_
    obtain ⟨i, hi, q3⟩ := opt_wp (M.wp_bind.mp q2)
    obtain ⟨j, hj, q4⟩ := opt_wp (M.wp_bind.mp q3)
    obtain ⟨ws, hw, q5⟩ := opt_wp q4
    rw [wInt_some hi] at rb
    rw [wInt_some hj] at rb2
    obtain ⟨hh, hw⟩ := if_some (show (if _ then _ else _) = _ from hw)
    subst hw
    exact ⟨i, j, by rw [rb.int, rb2.int], hh, fin_it env2 (f1.trans f2) q5 j_rng⟩
theorem i_rev (tk : TOk T kw) (xo : XOk T Nm sc Fn Ex X) (ha : Snd T Ex X a pa) (hs : star pa = false) (hg : glB sc "reversed" = true) : PI X tg (.Call (.Name "reversed" p) [pa] [] pos) (rdI T Ex (.rev a)) :=
  PI.weak (RT.pi_revA (gl_of xo hg) (mgn tk xo (by decide)) ha.pf (star_each hs)) fun σ H R ⟨c, N, Oi, B, O, r, env, q⟩ => by
    unfold evI at q
    refine rd1 env q fun x n v H1 f1 env1 rb q1 => ?_
    obtain ⟨ws, hw, q2⟩ := opt_wp q1
    rw [xo.hK]
    unfold itRev at hw
    split at hw
    · cases hw
      obtain ⟨l, xs, e, h1, h2⟩ := rw_lst rb.plain
      exact ⟨l, xs, e, .inl ⟨.inl (.inl (hide_le _ _ h1)), fin_it env1 f1 q2 (j_revL h1 h2)⟩⟩
    · cases hw
      obtain ⟨l, xs, e, h1, h2⟩ := rw_tup rb.plain
      exact ⟨l, xs, e, .inr ⟨sqT_same hide_le h1, fin_it env1 f1 q2 (j_revT h1 h2)⟩⟩
    · cases hw
theorem i_zip {elts : List Expr} {kk : Nat} {tpos : Pos} (tk : TOk T kw) (xo : XOk T Nm sc Fn Ex X) (ha : Snd T Ex X a pa) (hs : star pa = false) (hb : Snd T Ex X b pb) (hs2 : star pb = false) (hg : glB sc "zip" = true) :
    PI X (.Tuple elts kk tpos) (.Call (.Name "zip" p) [pa, pb] [] pos) (rdI T Ex (.zip a b)) :=
  PI.weak (RZ.pi_zipA (gl_of xo hg) (mgn tk xo (by decide)) (pa_cons ha.pf (pa_cons hb.pf pa_nil (star_each hs2)) (star_each hs)) (star_each hs) (star_any fun q hq => by simp at hq; subst hq; exact hs2)) fun σ H R ⟨c, N, Oi, B, O, r, env, q⟩ => by
    unfold evI at q
    refine rd1 env q fun x n v H1 f1 env1 rb q1 => rd1 env1 q1 fun y n2 v2 H2 f2 env2 rb2 q2 => ?_
    obtain ⟨ws, hw, q3⟩ := opt_wp q2
    have rb1 := (rb.step f2 env1.sO' env1.lO' env1.trk).plain
    rw [xo.hK]
    unfold itZip at hw
    split at hw
    · cases hw
      obtain ⟨l, xs, e, h1, h2⟩ := rw_lst rb1
      obtain ⟨l2, ys, e2, h3, h4⟩ := rw_lst rb2.plain
      exact ⟨l, l2, xs, ys, by rw [e, e2], .inl ⟨.inl (.inl (hide_le _ _ h1)), .inl (.inl (hide_le _ _ h3)), fin_it env2 (f1.trans f2) q3 (j_zipL h1 h2 h3 h4)⟩⟩
    · cases hw
      obtain ⟨l, xs, e, h1, h2⟩ := rw_tup rb1
      obtain ⟨l2, ys, e2, h3, h4⟩ := rw_tup rb2.plain
      exact ⟨l, l2, xs, ys, by rw [e, e2], .inr ⟨sqT_same hide_le h1, sqT_same hide_le h3, fin_it env2 (f1.trans f2) q3 (j_zipT h1 h2 h3 h4)⟩⟩
    · cases hw
end
end DS

set_option Elab.async false
set_option linter.all false
set_option autoImplicit false
set_option maxRecDepth 100000
set_option maxHeartbeats 4000000
/-! DS12: enumerate over a tuple. -/
namespace DS
open PySem PySem.Spec PySem.SeqAt PyProof.Rows L2 PySem.W
theorem enum_cell {hp : Heap} {o : Obj} (hf : o.isFreed = false) : IsEnum ((hp.push o).push { cls := .type "enumerate", data := .fields #[.none, .bool false, .ref hp.objs.size, rawInt 0, .none, .none] }) (hp.objs.size + 1) hp.objs.size 0 .none := by
  have hz : (hp.push o).objs.size = hp.objs.size + 1 := Heap.size_push ..
  have e := Heap.get?_push_size (hp.push o) (o := { cls := .type "enumerate", data := .fields #[.none, .bool false, .ref hp.objs.size, rawInt 0, .none, .none] }) rfl
  rw [hz] at e
  exact e
theorem enum_made {v : Value} {o : Obj} {J : Heap → Prop} (B : Begins v o J) :
    Meets (Builtin.«enumerate.__new__» ⟨[.type "enumerate", v], []⟩) (fun _ R s => J s.heap ∧ R (.ok (.ret (.ref (s.heap.objs.size + 1)))) { s with heap := (s.heap.push o).push { cls := .type "enumerate", data := .fields #[.none, .bool false, .ref s.heap.objs.size, rawInt 0, .none, .none] } }) := by
  refine .of_wp fun prog w A R s h => ?_
  obtain ⟨hp, g, dr, tk, os⟩ := s
  obtain ⟨h1, h⟩ := h
  have hz : (hp.push o).objs.size = hp.objs.size + 1 := Heap.size_push ..
  have hsub := sub_enumerate
  have q1 : ∀ {A' : Around} {E Q : Value → Shared → Prop}, Q (.ref hp.objs.size) ⟨hp.push o, g, dr, tk, os⟩ → wpAny (model prog w) A' (pyIter v) Q E ⟨hp, g, dr, tk, os⟩ := fun q => B.iter prog w _ _ _ _ h1 q
  have h2 : R (.ok (.ret (.ref (hp.push o).objs.size))) ⟨(hp.push o).push { cls := .type "enumerate", data := .fields #[.none, .bool false, .ref hp.objs.size, rawInt 0, .none, .none] }, g, dr, tk, os⟩ := by rw [hz]; exact h
  wp_walk using q1
  refine wpAny_stack_any fun st => wpAny_pure ?_
  split
  · rename_i cc _ _ _ _ _
    cases (cc == Value.type "enumerate") <;> (wp_walk using q1; exact ⟨_, rfl, h2⟩)
  · wp_walk using q1; exact ⟨_, rfl, h2⟩
theorem enum_call {prog : Program} {w : World} {A : Around} {E : Value → Shared → Prop} {s : Shared} {v : Value} {o : Obj} {J : Heap → Prop} {Q : Value → Shared → Prop} (B : Begins v o J) (hJ : J s.heap)
    (h : ∀ h', IsEnum h' (s.heap.objs.size + 1) s.heap.objs.size 0 .none → h'.get? s.heap.objs.size = some o → (∀ b u, s.heap.get? b = some u → h'.get? b = some u) → Q (.ref (s.heap.objs.size + 1)) { s with heap := h' }) :
    wpAny (model prog w) A (call (.type "enumerate") [v]) Q E s := by
  refine callType_new F.called_enumerate (by decide) (F.typeCall_enumerate_1 _) (F.newCall_enumerate_1 _) (fun obj => F.args_object_init_2 obj _) F.entry_enumerate_new (enum_made B) ⟨hJ, ?_⟩
  have he := enum_cell (hp := s.heap) B.free
  exact ⟨⟨_, he, rfl⟩, h _ he (Heap.get?_push_of_some _ (Heap.get?_push_size _ B.free)) fun b u x => Heap.get?_push_of_some _ (Heap.get?_push_of_some _ x)⟩
def IteT (K : Frag) (a : Addr) : L2.It :=
  ⟨fun i H => ∃ (xs : List V) (x : V), SqT K H a xs ∧ xs[i]? = some x, fun i H v H' => ∃ q x, v = .ref q ∧ H q = none ∧ H' = upd H q (.tup [.int (i : Nat), x]) ∧ ∀ xs, SqT K H a xs → xs[i]? = some x, fun i H => ∃ xs : List V, SqT K H a xs ∧ xs.length = i⟩
theorem apart_cls {h : Heap} {a b : Addr} {o u : Obj} (h1 : h.get? a = some o) (h2 : h.get? b = some u) (hc : o.cls ≠ u.cls) : a ≠ b := fun e => by
  subst e
  rw [h1] at h2
  cases h2
  exact hc rfl
theorem turn_enumT {P : Program} {w : World} {K : Frag} {elts : List Expr} {kk : Nat} {tpos : Pos} (a e it : Addr) :
    Turn P w K (.Tuple elts kk tpos) (IteT K a) [e, it] e (fun i h => (∃ old, IsEnum h e it ((i : Nat) : Int) old) ∧ h.IsTupleIter it a i ∧ e ≠ it) where
  mem := by simp
  obj := fun i h st b hb => by
    obtain ⟨⟨old, he⟩, ⟨o, ho, hc, hd⟩, _⟩ := st
    have hb : b = e ∨ b = it := by simpa using hb
    rcases hb with rfl | rfl
    · exact ⟨_, he, fun v q => nomatch q⟩
    · exact ⟨o, ho, fun v q => by rw [hd] at q; cases q⟩
  keep := fun i h h' st k => by
    obtain ⟨⟨old, he⟩, hi, hne⟩ := st
    exact ⟨⟨old, k e (by simp) _ he⟩, hi.at fun o q => k it (by simp) o q, hne⟩
  item := by
    intro X hP hw hK hc i pins s σ H E I hf st hg
    subst hP hw hK
    obtain ⟨⟨old, he⟩, hit, hne⟩ := st
    obtain ⟨xs, x, hq, hx⟩ := hg
    obtain ⟨its, rv, p, hz⟩ := I.tuple hq
    have p : s.heap.IsTuple a its.toArray := p
    have hl := rv.length
    have hil : i < its.toArray.size := by
      have := (List.getElem?_eq_some_iff.mp hx).1
      simp; omega
    obtain ⟨oa, hoa, hca, _⟩ := id p
    obtain ⟨oi, hoi, hci, _⟩ := id hit
    have n1 : a ≠ it := apart_cls hoa hoi (by rw [hca, hci]; decide)
    have n2 : e ≠ a := apart_cls (show s.heap.get? e = some _ from he) hoa (by rw [hca]; show Value.type "enumerate" ≠ Value.type "tuple"; decide)
    have hel : e < s.heap.objs.size := Heap.lt_size he
    have hitl : it < s.heap.objs.size := Heap.lt_size hoi
    refine wpAny_pyNext_enum_itemD (Draws.tuple (A := X.A.in1) (I.ok.hd hc) it a n1 its.toArray) he ⟨hit, p⟩ hil hne (by simp [hne, n2]) fun u h' tk pu ho' st' hT hsz hk => ?_
    obtain ⟨v, hv, ru⟩ : ∃ v, xs[i]? = some v ∧ RelV v u := by
      obtain ⟨u2, h2, r2⟩ := rv.get hx
      have : u2 = u := Option.some.inj (h2.symm.trans (by simpa using pu))
      exact ⟨x, hx, this ▸ r2⟩
    refine ⟨_, rfl, wpAny_letOwnedTupleGo_enum (s := { s with heap := h', toks := tk + 1 }) ho' fun h2 he2 sb => ?_⟩
    have hT2 : h2.get? s.heap.objs.size = some { cls := .type "tuple", data := .seq #[.int i tk, u] } := (sb.2 _ (Nat.ne_of_gt hel)).trans hT
    have new : ObjOk X.prog X.w (upd H s.heap.objs.size (.tup [.int (i : Nat), v])) h2 s.heap.objs.size (.tup [.int (i : Nat), v]) :=
      ⟨by show 2 ≤ sizeLine; decide, [.int i tk, u], .cons ⟨_, rfl⟩ (.cons ru .nil), ⟨_, hT2, rfl, _, rfl⟩⟩
    have I1 : Inv X pins σ (upd H s.heap.objs.size (.tup [.int (i : Nat), v])) { s with heap := h2, toks := tk + 1 } :=
      I.turnedNew (ch := [e, it]) (fun b ob hb q => (sb.2 b (fun z => hb (by simp [z]))).trans (hk b ob (fun z => hb (by simp [z])) (fun z => hb (by simp [z])) q)) hf (Nat.le_refl _) new
    refine ⟨.ref s.heap.objs.size, _, I1, rfl, ⟨_, v, rfl, I.hok.fresh (Nat.le_refl _), rfl, fun ys hy => by rw [I.tuple_inj hy hq]; exact hv⟩, ⟨⟨u, ?_⟩, st'.1.at fun o q => (sb.2 it (Ne.symm hne)).trans q, hne⟩, fun b hb => ?_⟩
    · rw [show ((i + 1 : Nat) : Int) = (i : Int) + 1 by omega]
      exact he2
    · have hb2 : b < s.heap.objs.size := by
        have hb : b = e ∨ b = it := by simpa using hb
        rcases hb with rfl | rfl
        · exact hel
        · exact hitl
      rw [upd_ne (Nat.ne_of_lt hb2)]
      exact (hf b hb).1
  done := by
    intro X hP hw hK hc i pins s σ H E I hf st hg
    subst hP hw hK
    obtain ⟨⟨old, he⟩, hit, hne⟩ := st
    obtain ⟨xs, hq, hx⟩ := hg
    obtain ⟨its, rv, p, hz⟩ := I.tuple hq
    have p : s.heap.IsTuple a its.toArray := p
    obtain ⟨f0, f1, f2, f3, f4, f5⟩ := hf it (by simp)
    have hl := rv.length
    obtain ⟨oa, hoa, hca, _⟩ := id p
    obtain ⟨oi, hoi, hci, _⟩ := id hit
    have n1 : a ≠ it := apart_cls hoa hoi (by rw [hca, hci]; decide)
    have hi : i = its.toArray.size := by
      simp; omega
    subst hi
    exact wpAny_pyNext_enum_endD (Draws.tuple (A := X.A.in1) (I.ok.hd hc) it a n1 its.toArray) he ⟨hit, p⟩ fun h' eb => ⟨rfl, I.turned (t' := s.toks) (fun b o hb q => eb b o hb q) f0 f1 f3 f4 f5⟩
  self := fun A i s Q E st h => by
    obtain ⟨⟨_, he⟩, _⟩ := st
    exact wpAny_pyIter_enum he h

section
variable {T : Stc} {Ex : XK} {X : Cx} {a : E} {pa : Expr} {pos p : Pos} {c : StA} {G : Hp} {kw : List (Nat × Nat × List Str × List Nat)} {Nm : List Str} {sc : Scope} {Fn : Str → Bool}
theorem j_enumT {l : Addr} {xs : List V} {ds : List PyData} (hl : SqT T.K G l xs) (hr : RDs T.K G xs ds) : JOk T c G (IteT T.K l) (enumD ds) where
  go := fun i O' H s hi => by
    obtain ⟨x, hx⟩ := get_lt (xs := xs) (i := i) (by rw [hr.len]; rwa [enum_len] at hi)
    exact ⟨xs, x, sqT_same (s.trans hide_le) hl, hx⟩
  yl := fun i O' H x H' hi s ht ⟨q, y, e1, hq, e2, h⟩ => by
    subst e1 e2
    obtain ⟨d, h1, h2⟩ := hr.get' (h xs (sqT_same (s.trans hide_le) hl))
    exact ⟨.d (.tuple [.int (i : Nat), d]), by rw [enum_get, h1]; rfl, same_new hq, pair_new hq ht (.int _) (RD.mono s _ _ h2)⟩
  st := fun i O' H s hi => ⟨xs, sqT_same (s.trans hide_le) hl, by rw [hr.len, ← hi, enum_len]⟩
theorem i_enum {elts : List Expr} {kk : Nat} {tpos : Pos} (tk : TOk T kw) (xo : XOk T Nm sc Fn Ex X) (ha : Snd T Ex X a pa) (hs : star pa = false) (hg : glB sc "enumerate" = true) : PI X (.Tuple elts kk tpos) (.Call (.Name "enumerate" p) [pa] [] pos) (rdI T Ex (.enum a)) := by
  refine ⟨fun pins s σ H R I ⟨c, N, Oi, B, O, r, env, q⟩ => ?_⟩
  unfold evI at q
  have rd : tCons (rdE T Ex false a) tNil σ H fun vs H1 => ∃ l xs, vs = [.ref l] ∧ ((SqL X.K H1 l xs ∧ R (Ite X.K l) H1) ∨ (SqT X.K H1 l xs ∧ R (IteT X.K l) H1)) := rd1 env q fun x n v H1 f1 env1 rb q1 => by
    obtain ⟨ws, hw, q2⟩ := opt_wp q1
    rw [xo.hK]
    unfold itEnum at hw
    split at hw
    · cases hw
      obtain ⟨l, xs, e, h1, h2⟩ := rw_lst rb.plain
      exact ⟨l, xs, by rw [e], .inl ⟨.inl (.inl (hide_le _ _ h1)), fin_it env1 f1 q2 (j_enumL h1 h2)⟩⟩
    · cases hw
      obtain ⟨l, xs, e, h1, h2⟩ := rw_tup rb.plain
      exact ⟨l, xs, by rw [e], .inr ⟨sqT_same hide_le h1, fin_it env1 f1 q2 (j_enumT h1 h2)⟩⟩
    · cases hw
  refine Call_ (ld_blt I (gl_of xo hg) (mgn tk xo (by decide)) boot_enumerate (PyProof.Rows.callWith_type1 (thn ((arg1f ha hs).run pos pins s σ H _ I rd) fun us s1 hq => ?_) (star_each hs) rfl))
  obtain ⟨vs, H1, I1, r1, l, xs, rfl, hq⟩ := hq
  obtain ⟨u, rfl, ru⟩ := vals1 r1
  cases ru
  have fp : ∀ b ∈ [s1.heap.objs.size + 1, s1.heap.objs.size], FpOk X pins H1 b := fun b hb => by
    have hb : b = s1.heap.objs.size + 1 ∨ b = s1.heap.objs.size := by simpa using hb
    have hle : s1.heap.objs.size ≤ b := by rcases hb with z | z <;> rw [z] <;> omega
    exact I1.fpOk hle (I1.hok.fresh hle)
  rcases hq with ⟨h1, h2⟩ | ⟨h1, h2⟩
  · obtain ⟨its, rv, p', hz⟩ := I1.list h1
    refine enum_call (begins_list l its.toArray) p'.isList fun h' he hit hk => wpAny_pyIter_enum he ?_
    exact ⟨s1.heap.objs.size + 1, _, _, _, H1, rfl, I1.kept (t' := s1.toks) hk, turn_enum l (s1.heap.objs.size + 1) s1.heap.objs.size, ⟨⟨.none, he⟩, ⟨_, hit, rfl, rfl⟩, Nat.succ_ne_self _⟩, fp, h2⟩
  · obtain ⟨its, rv, p', hz⟩ := I1.tuple h1
    refine enum_call (begins_tuple l its.toArray) (show s1.heap.IsTuple l its.toArray from p') fun h' he hit hk => wpAny_pyIter_enum he ?_
    exact ⟨s1.heap.objs.size + 1, _, _, _, H1, rfl, I1.kept (t' := s1.toks) hk, turn_enumT l (s1.heap.objs.size + 1) s1.heap.objs.size, ⟨⟨.none, he⟩, ⟨_, hit, rfl, rfl⟩, Nat.succ_ne_self _⟩, fp, h2⟩
end
end DS

set_option Elab.async false
set_option linter.all false
set_option autoImplicit false
set_option maxRecDepth 100000
set_option maxHeartbeats 4000000
/-! DS13: targets, comprehensions. -/
namespace DS
open PySem PySem.Spec PySem.SeqAt PyProof.Rows L2
section
variable {K : Frag} {fa : Nat → Addr} {c : StA} {N N' : Nat} {Oi O : List Addr} {B H H' : Hp} {σ : L2.St} {r : Env}
/-- a name is stored -/
theorem EnvOk.set {i : Nat} {v : V} {w : W} (e : EnvOk K fa c N Oi B O H σ r) (hi : i < r.length) (h : RW K fa c (hide O H) v w) : EnvOk K fa c N Oi B O H (σ.set i (some v)) (r.set i (.sh w)) where
  sub := e.sub
  sO := e.sO
  lO := e.lO
  cB := e.cB
  trk := e.trk
  st := e.st
  fr := e.fr
  len := by simp [e.len]
  sh := fun j u hj => by
    by_cases q : i = j
    · subst q
      rw [List.getElem?_set_self hi] at hj
      cases hj
      exact ⟨v, List.getElem?_set_self (by rw [e.len]; exact hi), h⟩
    · rw [List.getElem?_set_ne q] at hj ⊢
      exact e.sh j u hj
  ow := fun j u hj => by
    by_cases q : i = j
    · subst q
      rw [List.getElem?_set_self hi] at hj
      cases hj
    · rw [List.getElem?_set_ne q] at hj ⊢
      exact e.ow j u hj
  inj := fun j k w1 w2 a h1 h2 h3 h4 => by
    by_cases q : i = j
    · subst q
      rw [List.getElem?_set_self hi] at h1
      cases h1
    · by_cases q2 : i = k
      · subst q2
        rw [List.getElem?_set_self hi] at h2
        cases h2
      · rw [List.getElem?_set_ne q] at h1 h3
        rw [List.getElem?_set_ne q2] at h2 h4
        exact e.inj j k w1 w2 a h1 h2 h3 h4
/-- a name is forgotten -/
theorem EnvOk.drop1 {i : Nat} (e : EnvOk K fa c N Oi B O H σ r) : EnvOk K fa c N Oi B O H (σ.set i none) (r.set i .no) where
  sub := e.sub
  sO := e.sO
  lO := e.lO
  cB := e.cB
  trk := e.trk
  st := e.st
  fr := e.fr
  len := by simp [e.len]
  sh := fun j u hj => by
    by_cases q : i = j
    · subst q
      rw [List.getElem?_set] at hj
      simp at hj
    · rw [List.getElem?_set_ne q] at hj ⊢
      exact e.sh j u hj
  ow := fun j u hj => by
    by_cases q : i = j
    · subst q
      rw [List.getElem?_set] at hj
      simp at hj
    · rw [List.getElem?_set_ne q] at hj ⊢
      exact e.ow j u hj
  inj := fun j k w1 w2 a h1 h2 h3 h4 => by
    by_cases q : i = j
    · subst q
      rw [List.getElem?_set] at h1
      simp at h1
    · by_cases q2 : i = k
      · subst q2
        rw [List.getElem?_set] at h2
        simp at h2
      · rw [List.getElem?_set_ne q] at h1 h3
        rw [List.getElem?_set_ne q2] at h2 h4
        exact e.inj j k w1 w2 a h1 h2 h3 h4
theorem EnvOk.wiped (e : EnvOk K fa c N Oi B O H σ r) : ∀ is : List Nat, EnvOk K fa c N Oi B O H (wipe σ is) (wipeE r is)
  | [] => e
  | i :: is => (e.wiped is).drop1
theorem wipe_set {σ : L2.St} {i : Nat} {v : Option V} : ∀ {is : List Nat}, i ∈ is → wipe (σ.set i v) is = wipe σ is
  | j :: is, h => by
    unfold wipe
    by_cases q : i ∈ is
    · rw [wipe_set q]
    · have e : i = j := by
        rcases List.mem_cons.mp h with h | h
        · exact h
        · exact absurd h q
      subst e
      have : ∀ {is : List Nat} {σ : L2.St}, i ∉ is → wipe (σ.set i v) is = (wipe σ is).set i v := by
        intro is
        induction is with
        | nil => intro σ _; rfl
        | cons k is ih =>
          intro σ hk
          unfold wipe
          rw [ih fun z => hk (List.mem_cons_of_mem _ z), List.set_comm]
          intro z
          exact hk (by rw [z]; exact List.mem_cons_self)
      rw [this q, List.set_set]
/-- a new object that is hidden -/
theorem EnvOk.hideNew {D : Addr} {o : HO} (e : EnvOk K fa c N Oi B O H σ r) (h : H D = none) : EnvOk K fa c N Oi B (D :: O) (upd H D o) σ r where
  sub := fun b hb => List.mem_cons_of_mem _ (e.sub b hb)
  sO := e.sO
  lO := e.lO
  cB := e.cB
  trk := fun b hb => by
    by_cases q : b = D
    · subst q; exact ⟨o, upd_same⟩
    · rw [upd_ne q]
      rcases List.mem_cons.mp hb with z | z
      · exact absurd z q
      · exact e.trk b z
  st := e.st.same (same_new h)
  fr := e.fr.trans (.of (same_new h))
  len := e.len
  sh := fun i w hw => by
    obtain ⟨v, h1, h2⟩ := e.sh i w hw
    exact ⟨v, h1, h2.mono (hide_new h)⟩
  ow := fun i w hw => by
    obtain ⟨a, h1, h2, h3, h4, h5⟩ := e.ow i w hw
    have n : a ≠ D := fun z => by
      obtain ⟨u, hu⟩ := e.trk a h2
      rw [z, h] at hu; cases hu
    exact ⟨a, h1, List.mem_cons_of_mem _ h2, h3, h4, h5.mono (hide_new h) (upd_ne n)⟩
  inj := e.inj
/-- a hidden object that no name owns is changed -/
theorem EnvOk.updHid {D : Addr} {o : HO} (e : EnvOk K fa c N Oi B O H σ r) (hD : D ∈ O) (hB : B D = none) (hc : H c.ca ≠ none → D ≠ c.ca) (hi : D ∉ Oi) (hn : ∀ (i : Nat) w, r[i]? = some (.ow w) → σ[i]? ≠ some (some (.ref D))) : EnvOk K fa c N Oi B O (upd H D o) σ r where
  sub := e.sub
  sO := e.sO
  lO := e.lO
  cB := e.cB
  trk := fun b hb => by
    by_cases q : b = D
    · subst q; exact ⟨o, upd_same⟩
    · rw [upd_ne q]; exact e.trk b hb
  st := by
    obtain ⟨⟨cs, ls, n, h1, h2, h3, h4⟩, h5⟩ := e.st
    have n1 : c.sa ≠ D := fun z => hi (z ▸ e.sO)
    have n2 : c.la ≠ D := fun z => hi (z ▸ e.lO)
    have n3 : c.ca ≠ D := fun z => hc (by rw [h2]; simp) z.symm
    exact ⟨⟨cs, ls, n, by rw [upd_ne n1]; exact h1, by rw [upd_ne n3]; exact h2, by rw [upd_ne n2]; exact h3, h4⟩, h5⟩
  fr := fun b u h1 h2 h3 => by
    have q : b ≠ D := fun z => by rw [z, hB] at h3; cases h3
    rw [upd_ne q]
    exact e.fr b u h1 h2 h3
  len := e.len
  sh := fun i w hw => by
    rw [hide_upd hD]
    exact e.sh i w hw
  ow := fun i w hw => by
    obtain ⟨a, h1, h2, h3, h4, h5⟩ := e.ow i w hw
    have n : a ≠ D := fun z => hn i w hw (z ▸ h1)
    exact ⟨a, h1, h2, h3, h4, h5.mono (by rw [hide_upd hD]; exact Same.refl _) (upd_ne n)⟩
  inj := e.inj
end

/-! ### targets -/
def rdG (T : Stc) (tg : Tg) : TG := fun v σ H Q => ∃ c N Oi B O r w r', EOk T c N Oi B O H σ r ∧ RW T.K T.fa c (hide O H) v w ∧ asgT tg w r = some r' ∧ ∀ σ', EOk T c N Oi B O H σ' r' → wipe σ' tg.is = wipe σ tg.is → Q σ' H
section
variable {T : Stc} {Ex : XK} {X : Cx} {kw : List (Nat × Nat × List Str × List Nat)} {Nm : List Str} {sc : Scope} {Fn : Str → Bool} {ct : Ct}
theorem PG.weak {tg : Expr} {t t' : TG} (h : PG X tg t) (i : ∀ v σ H Q, t' v σ H Q → t v σ H Q) : PG X tg t' := ⟨fun pins s σ H v u Q I r q => h.run pins s σ H v u Q I r (i v σ H Q q)⟩
theorem chkTg_star {tg : Tg} {pe : Expr} (h : chkTg ct sc Fn tg pe = true) : star pe = false := by
  cases pe <;> first | rfl | (cases tg <;> simp [chkTg] at h)
theorem as_star {e : Expr} {es : List Expr} {env : PySem.Env} (h : star e = false) : assignEach (e :: es) env = (false, assign e env) :: assignEach es env := by
  cases e <;> first | rfl | cases h
theorem wipe_app {σ : L2.St} : ∀ {is js : List Nat}, wipe σ (is ++ js) = wipe (wipe σ js) is
  | [], _ => rfl
  | i :: is, js => by
    show (wipe σ (is ++ js)).set i none = _
    rw [wipe_app]
    rfl
theorem wipe_comm {σ : L2.St} : ∀ {is js : List Nat}, wipe (wipe σ js) is = wipe (wipe σ is) js := by
  have one : ∀ {js : List Nat} {σ : L2.St} {i : Nat}, (wipe σ js).set i none = wipe (σ.set i none) js := by
    intro js
    induction js with
    | nil => intro σ i; rfl
    | cons j js ih =>
      intro σ i
      unfold wipe
      by_cases q : i = j
      · subst q; rw [ih]
      · rw [← ih, List.set_comm _ _ q]
  intro is
  induction is with
  | nil => intro js; rfl
  | cons i is ih =>
    intro js
    show (wipe (wipe σ js) is).set i none = wipe ((wipe σ is).set i none) js
    rw [ih, one]
def rdGs (T : Stc) (gs : TgL) : TGs := fun vs σ H Q => ∃ c N Oi B O r ds r', EOk T c N Oi B O H σ r ∧ RDs T.K (hide O H) vs ds ∧ asgTs gs ds r = some r' ∧ ∀ σ', EOk T c N Oi B O H σ' r' → wipe σ' gs.is = wipe σ gs.is → Q σ' H
theorem PGs.weak {ps : List Expr} {t t' : TGs} (h : PGs X ps t) (i : ∀ v σ H Q, t' v σ H Q → t v σ H Q) : PGs X ps t' := ⟨fun pins s σ H v u Q I r q => h.run pins s σ H v u Q I r (i v σ H Q q)⟩
theorem chkTgs_star : ∀ {gs : TgL} {ps : List Expr}, chkTgs ct sc Fn gs ps = true → ∀ p ∈ ps, star p = false
  | .nil, [], _, _, hp => by simp at hp
  | .nil, _ :: _, h, _, _ => by simp [chkTgs] at h
  | .cons _ _, [], h, _, _ => by simp [chkTgs] at h
  | .cons g gs, p :: ps, h, q, hq => by
    simp only [chkTgs, Bool.and_eq_true] at h
    rcases List.mem_cons.mp hq with rfl | hq
    · exact chkTg_star h.1
    · exact chkTgs_star h.2 q hq
theorem as_len {env : PySem.Env} : ∀ {ps : List Expr}, (∀ p ∈ ps, star p = false) → (assignEach ps env).length = ps.length ∧ (assignEach ps env).findIdx? (·.1) = none
  | [], _ => ⟨rfl, rfl⟩
  | p :: ps, h => by
    rw [as_star (h p List.mem_cons_self)]
    obtain ⟨h1, h2⟩ := as_len (env := env) (ps := ps) fun q hq => h q (List.mem_cons_of_mem _ hq)
    refine ⟨by rw [List.length_cons, List.length_cons, h1], ?_⟩
    rw [List.findIdx?_cons, h2]
    rfl
theorem chkTgs_len : ∀ {gs : TgL} {ps : List Expr} {ds : List PyData} {r r' : Env}, chkTgs ct sc Fn gs ps = true → asgTs gs ds r = some r' → ds.length = ps.length
  | .nil, [], [], _, _, _, _ => rfl
  | .nil, [], _ :: _, _, _, _, h => by simp [asgTs] at h
  | .nil, _ :: _, _, _, _, h, _ => by simp [chkTgs] at h
  | .cons _ _, [], _, _, _, h, _ => by simp [chkTgs] at h
  | .cons _ _, _ :: _, [], _, _, _, h => by simp [asgTs] at h
  | .cons g gs, p :: ps, d :: ds, r, r', h, h2 => by
    simp only [chkTgs, Bool.and_eq_true] at h
    unfold asgTs at h2
    simp only at h2
    split at h2
    · rw [List.length_cons, List.length_cons, chkTgs_len h.2 h2]
    · cases h2
mutual
theorem s_tg (xo : XOk T ct.N sc Fn Ex X) : ∀ (tg : Tg) (pe : Expr), chkTg ct sc Fn tg pe = true → PG X pe (rdG T tg)
  | .n i, pe, h => by
    unfold chkTg at h
    split at h
    · rename_i x p
      simp only [Bool.and_eq_true, decide_eq_true_eq] at h
      obtain ⟨h1, h2⟩ := h
      obtain ⟨h3, h4⟩ := locB_ok h2
      refine PG.weak (pg_name (by rw [xo.hN]; exact xo.nd) (by rw [xo.hN]; exact h1) (by rw [xo.hsc]; exact h3) (by rw [xo.hfn, xo.hsc]; exact h4)) fun v σ H Q ⟨c, N, Oi, B, O, r, w, r', env, rw', ha, k⟩ => ?_
      unfold asgT at ha
      obtain ⟨hi, rfl⟩ := if_some ha
      exact k _ (env.set hi rw') (wipe_set (by simp [Tg.is]))
    · cases h
  | .t ts, pe, h => by
    unfold chkTg at h
    split at h
    · rename_i ps kk p
      have hs := chkTgs_star h
      obtain ⟨l1, l2⟩ := as_len (env := X.env) hs
      refine PG.weak (pg_tup (n := ps.length) xo.calm (s_tgs xo ts ps h) l1 l2) fun v σ H Q ⟨c, N, Oi, B, O, r, w, r', env, rw', ha, k⟩ => ?_
      unfold asgT at ha
      split at ha
      · rename_i ds
        obtain ⟨l, xs, rfl, g1, g2⟩ := rw_tup rw'
        exact ⟨l, xs, rfl, by rw [xo.hK]; exact sqT_same hide_le g1, by rw [g2.len]; exact chkTgs_len h ha, c, N, Oi, B, O, r, ds, r', env, g2, ha, k⟩
      · cases ha
    · cases h
theorem s_tgs (xo : XOk T ct.N sc Fn Ex X) : ∀ (gs : TgL) (ps : List Expr), chkTgs ct sc Fn gs ps = true → PGs X ps (rdGs T gs)
  | .nil, ps, h => by
    cases ps with
    | cons _ _ => simp [chkTgs] at h
    | nil =>
      refine PGs.weak pgs_nil fun v σ H Q ⟨c, N, Oi, B, O, r, ds, r', env, rd, ha, k⟩ => ?_
      unfold asgTs at ha
      cases rd with
      | nil => cases ha; exact ⟨rfl, k σ env rfl⟩
      | cons _ _ => cases ha
  | .cons g gs, ps, h => by
    cases ps with
    | nil => simp [chkTgs] at h
    | cons p ps =>
      simp only [chkTgs, Bool.and_eq_true] at h
      refine PGs.weak (pgs_cons (s_tg xo g p h.1) (s_tgs xo gs ps h.2) (by rw [as_star (chkTg_star h.1)]; rfl)) fun v σ H Q ⟨c, N, Oi, B, O, r, ds, r', env, rd, ha, k⟩ => ?_
      unfold asgTs at ha
      cases rd with
      | nil => cases ha
      | cons r1 rt =>
        simp only at ha
        split at ha
        · rename_i r1' h1
          refine ⟨_, _, rfl, c, N, Oi, B, O, r, _, r1', env, .d r1, h1, fun σ1 env1 e1 => ⟨c, N, Oi, B, O, r1', _, r', env1, rt, ha, fun σ2 env2 e2 => k σ2 env2 ?_⟩⟩
          show wipe σ2 (g.is ++ gs.is) = wipe σ (g.is ++ gs.is)
          rw [wipe_app, e2, wipe_comm, e1, wipe_comm, ← wipe_app]
        · cases ha
end
end
end DS

set_option Elab.async false
set_option linter.all false
set_option autoImplicit false
set_option maxRecDepth 100000
set_option maxHeartbeats 4000000
/-! DS14: comprehensions; all expressions. -/
namespace DS
open PySem PySem.Spec PySem.SeqAt PyProof.Rows L2
section
variable {T : Stc} {Ex : XK} {X : Cx} {kw : List (Nat × Nat × List Str × List Nat)} {Nm : List Str} {sc : Scope} {Fn : Str → Bool} {ct : Ct} {elt : E} {cs : EL} {tg : Tg} {it : It} {c : StA} {O Oi : List Addr} {H H1 B : Hp} {N n : Nat} {σ : L2.St} {r : Env} {Q : VK}
/-- the block of a comprehension -/
theorem XOk.blk (xo : XOk T Nm sc Fn Ex X) (s : Shared) (H : Hp) (scope : Scope) (cl : List (Str × Addr)) (C : Addr) (fp : List Addr) : XOk T Nm (relS scope sc) (fun x => scope.names.lookup x == some .cell) E0 (X.blk s H scope (compEnvC scope cl C X.env) fp) where
  hP := xo.hP
  hw := xo.hw
  hK := xo.hK
  hmg := xo.hmg
  hbase := xo.hbase
  hN := xo.hN
  hsc := by rw [← xo.hsc]; rfl
  calm := xo.calm
  nd := xo.nd
  room := xo.room
  gd := xo.gd
  hfn := rfl
  pas := passL
/-- a comprehension's tests -/
def rdC (T : Stc) (cs : EL) : TT := fun σ H Q => ∃ c N Oi B O r, EOk T c N Oi B O H σ r ∧ (evC T.fs T.gs r cs).wp N (FinT c H Q) (fun _ _ => False)
theorem PTs.weak {ps : List Expr} {t t' : TT} (h : PTs X ps t) (i : ∀ σ H Q, t' σ H Q → t σ H Q) : PTs X ps t' := ⟨fun pins s σ H Q I q => h.run pins s σ H Q I (i σ H Q q)⟩
theorem c_nil : PTs X [] (rdC T .nil) := PTs.weak pts_nil fun σ H Q ⟨c, N, Oi, B, O, r, env, q⟩ => by
  unfold evC at q
  have q : FinT c H Q true N := q
  exact q H Fr.refl env.st
theorem c_one {e : E} {pe : Expr} {es : EL} (h : Snd T E0 X e pe) : PTs X [pe] (rdC T (.cons e es)) := PTs.weak (pts_one h.ts) fun σ H Q ⟨c, N, Oi, B, O, r, env, q⟩ => by
  unfold evC at q
  exact ⟨c, N, Oi, B, O, r, env, M.wp_mono (fun _ _ h => h) (fun _ _ z => z.elim) q⟩
/-- one turn -/
def turnC (T : Stc) (tg : Tg) (cs : EL) (elt : E) (r : Env) : W → M (Option PyData) := fun w => match asgT tg w (wipeE r tg.is) with
  | some r1 => (evC T.fs T.gs r1 cs).bind fun c => if c = true then (evE T.fs T.gs r1 false elt).bind fun y => (opt y.data?).bind fun x => .ret (some x) else .ret none
  | none => .stuck
theorem evE_comp {bw : Bool} : evE T.fs T.gs r bw (.comp tg it cs elt) = (evI T.fs T.gs r it).bind fun ws => if ws.length ≤ cap then (compM (turnC T tg cs elt r) ws []).nox.bind fun ds => .ret (.d (.list ds)) else .stuck := rfl
theorem compM_cons {step : W → M (Option PyData)} {w : W} {ws : List W} {acc : List PyData} : compM step (w :: ws) acc = (step w).bind fun o => match o with
    | some x => compM step ws (acc ++ [x])
    | none => compM step ws acc := rfl
/-- a reading of what is new -/
def FinF (T : Stc) (c : StA) (O : List Addr) (H : Hp) (Q : VK) : W → Nat → Prop := fun w n => ∀ v H', Fr c H H' → StOk c n H' → RFr T c O H H' v w → Q v H'
def rdF (T : Stc) (Ex : XK) (e : E) : TE := fun σ H Q => ∃ c N Oi B O r, EOk T c N Oi B O H σ r ∧ (evE T.fs T.gs r false e).wp N (FinF T c O H Q) (EX T Ex c O H)
theorem rdE_F {bw : Bool} {e : E} (hb : ∀ r, evE T.fs T.gs r bw e = evE T.fs T.gs r false e) (h : rdE T Ex bw e σ H Q) : rdF T Ex e σ H Q := by
  obtain ⟨c, N, Oi, B, O, r, env, q⟩ := h
  rw [hb] at q
  exact ⟨c, N, Oi, B, O, r, env, M.wp_mono (fun w n k v H' f s rf => k v H' f s (.inl rf.1)) (fun _ _ x => x) q⟩
theorem fr_none {H H1 : Hp} {c : StA} {a : Addr} {n : Nat} (f : Fr c H H1) (s : StOk c n H1) (h : H1 a = none) : H a = none := by
  cases z : H a with
  | none => rfl
  | some o =>
    by_cases h1 : a = c.sa
    · obtain ⟨u, hu⟩ := s.sa
      rw [← h1, h] at hu; cases hu
    · by_cases h2 : a = c.la
      · obtain ⟨u, hu⟩ := s.la
        rw [← h2, h] at hu; cases hu
      · have := f a o h1 h2 z
        rw [h] at this; cases this
theorem RFr.back {H H1 H' : Hp} {v : V} {w : W} (f : Fr c H H1) (s : StOk c n H1) (h : RFr T c O H1 H' v w) : RFr T c O H H' v w :=
  ⟨h.1, fun z => by
    obtain ⟨a, h1, h2, h3⟩ := h.2 z
    exact ⟨a, h1, fr_none f s h2, h3⟩⟩
theorem fin_ansF {w : W} (env : EOk T c n Oi B O H1 σ r) (f : Fr c H H1) (h : FinF T c O H Q w n) : AnsF T c O H1 w Q := fun v H' s rf => h v H' (f.trans (.of s)) (env.st.same s) (rf.back f env.st)
theorem s_comp_key {wi : TI} {vs : List Nat} (hvs : vs = tg.is) (hwi : ∀ σ H R, rdI T Ex it σ H R → wi σ H R) (h : rdF T Ex (.comp tg it cs elt) σ H Q) : tLc wi (rdG T tg) (rdC T cs) (rdE T E0 false elt) vs σ H Q := by
  subst hvs
  obtain ⟨c, N, Oi, B, O, r, env, q⟩ := h
  rw [evE_comp] at q
  refine hwi _ _ _ ⟨c, N, Oi, B, O, r, env, M.wp_mono (fun ws n q J H1 f1 s1 hj D hD => ?_) (fun _ _ x => x) (M.wp_bind.mp q)⟩
  have env1 := env.step f1 s1
  by_cases hcap : ws.length ≤ cap
  case neg => rw [if_neg hcap] at q; exact q.elim
  rw [if_pos hcap] at q
  have q := M.wp_nox (M.wp_bind.mp q)
  have hDO : D ∉ O := env1.fresh hD
  have hDs : D ≠ c.sa := fun z => hDO (z ▸ env.sO')
  have hDl : D ≠ c.la := fun z => hDO (z ▸ env.lO')
  have hDc : D ≠ c.ca := fun z => by
    obtain ⟨_, _, _, _, h2, _⟩ := s1.ex
    rw [z, h2] at hD; cases hD
  have hB : B D = none := by
    cases z : B D with
    | none => rfl
    | some u => have := env1.fr D u hDs hDl z; rw [hD] at this; cases this
  have hH : H D = none := by
    cases z : H D with
    | none => rfl
    | some u => have := f1 D u hDs hDl z; rw [hD] at this; cases this
  have hown : ∀ (i : Nat) w, r[i]? = some (.ow w) → σ[i]? ≠ some (some (.ref D)) := fun i w hw z => by
    obtain ⟨a, g1, g2, _⟩ := env1.ow i w hw
    rw [z] at g1
    cases g1
    exact hDO g2
  refine ⟨fun i m Hc => m = ws.length - i ∧ i ≤ ws.length ∧ ∃ nc acc ds, Hc D = some (.lst acc) ∧ RDs T.K (hide (D :: O) Hc) acc ds ∧ EOk T c nc Oi B (D :: O) Hc σ r ∧ ds.length ≤ i ∧ Fr c H1 Hc ∧ Same (hide O H1) (hide (D :: O) Hc) ∧
    (compM (turnC T tg cs elt r) (ws.drop i) ds).wp nc (fun ds n => FinF T c O H Q (.d (.list ds)) n) (fun _ _ => False), ⟨ws.length, ?_⟩, ?_⟩
  · refine ⟨rfl, Nat.zero_le _, n, [], [], upd_same, .nil, env1.hideNew hD, Nat.le_refl _, .of (same_new hD), hide_new hD, ?_⟩
    exact M.wp_mono (fun ds n h => h) (fun _ _ z => z.elim) q
  · rintro i m Hc ⟨rfl, hi, nc, acc, ds, hacc, rds, envc, hdl, fc, sc', qc⟩
    by_cases hlt : i < ws.length
    · refine .inr ⟨hj.go i (D :: O) Hc sc' hlt, fun H' => ∃ m', m' < ws.length - i ∧ m' = ws.length - (i + 1) ∧ i + 1 ≤ ws.length ∧ ∃ nc acc ds, H' D = some (.lst acc) ∧ RDs T.K (hide (D :: O) H') acc ds ∧ EOk T c nc Oi B (D :: O) H' σ r ∧ ds.length ≤ i + 1 ∧ Fr c H1 H' ∧ Same (hide O H1) (hide (D :: O) H') ∧
        (compM (turnC T tg cs elt r) (ws.drop (i + 1)) ds).wp nc (fun ds n => FinF T c O H Q (.d (.list ds)) n) (fun _ _ => False), fun H' ⟨m', h1, h2⟩ => ⟨m', h1, h2⟩, fun x H2 hy => ?_⟩
      obtain ⟨w, hw, s2, rw2⟩ := hj.yl i (D :: O) Hc x H2 hlt sc' envc.trk hy
      have env2 := envc.step (.of s2) (envc.st.same s2)
      have hdrop : ws.drop i = w :: ws.drop (i + 1) := by
        rw [List.drop_eq_getElem_cons hlt]
        congr 1
        exact Option.some.inj ((List.getElem?_eq_getElem hlt).symm.trans hw)
      rw [hdrop, compM_cons] at qc
      have qc := M.wp_bind.mp qc
      unfold turnC at qc
      cases ha : asgT tg w (wipeE r tg.is) with
      | none => rw [ha] at qc; exact qc.elim
      | some r1 =>
        rw [ha] at qc
        have qc := M.wp_bind.mp qc
        have hs12 : Same (hide O H1) (hide (D :: O) H2) := sc'.trans (hide_same s2)
        refine ⟨c, nc, Oi, B, D :: O, wipeE r tg.is, w, r1, env2.wiped tg.is, rw2, ha, fun σ2 env3 e3 => ⟨?_, c, nc, Oi, B, D :: O, r1, env3, M.wp_mono (fun b n3 q3 H3 f3 s3 => ?_) (fun _ _ z => z) qc⟩⟩
        · rw [e3]
          have : ∀ {σ : L2.St} {is : List Nat}, wipe (wipe σ is) is = wipe σ is := by
            intro σ is
            induction is with
            | nil => rfl
            | cons i is ih =>
              have e1 : wipe (wipe σ (i :: is)) is = wipe σ (i :: is) := by
                show wipe ((wipe σ is).set i none) is = (wipe σ is).set i none
                have e2 : ∀ {τ : L2.St} {js : List Nat}, wipe (τ.set i none) js = (wipe τ js).set i none := by
                  intro τ js
                  exact (wipe_comm (σ := τ) (is := js) (js := [i]))
                rw [e2, ih]
              show (wipe (wipe σ (i :: is)) is).set i none = (wipe σ is).set i none
              rw [e1]
              show ((wipe σ is).set i none).set i none = _
              rw [List.set_set]
          exact this
        · have env4 := env3.step f3 s3
          have envb := env2.step f3 s3
          have s13 : Same (hide O H1) (hide (D :: O) H3) := hs12.trans (f3.hide env3.sO' env3.lO')
          have hD2 : H2 D = some (.lst acc) := s2 _ _ hacc
          have hD3 : H3 D = some (.lst acc) := f3 _ _ hDs hDl hD2
          have rds3 : RDs T.K (hide (D :: O) H3) acc ds := RDs.mono ((hide_same s2).trans (f3.hide env3.sO' env3.lO')) _ _ rds
          have fr3 : Fr c H1 H3 := (fc.trans (.of s2)).trans f3
          cases b with
          | false =>
            rw [if_neg Bool.false_ne_true] at q3
            exact iteF ⟨_, by omega, rfl, hlt, n3, acc, ds, hD3, rds3, envb, by omega, fr3, s13, q3⟩
          | true =>
            rw [if_pos rfl] at q3
            have q3 := M.wp_bind.mp q3
            refine iteT ⟨c, n3, Oi, B, D :: O, r1, env4, M.wp_mono (fun y n4 q4 v H4 f4 s4 rb => ?_) (fun _ _ z => z.elim) q3⟩
            have hD4 : H4 D = some (.lst acc) := f4 _ _ hDs hDl hD3
            have envd := envb.step f4 s4
            have s14 : Same (hide O H1) (hide (D :: O) H4) := s13.trans (f4.hide env4.sO' env4.lO')
            have rds4 : RDs T.K (hide (D :: O) H4) acc ds := RDs.mono (f4.hide env4.sO' env4.lO') _ _ rds3
            obtain ⟨dy, hdy, q4⟩ := opt_wp (M.wp_bind.mp q4)
            have hy : y = .d dy := by
              cases y with
              | d z => cases hdy; rfl
              | tok => cases hdy
              | fn _ => cases hdy
              | dK _ => cases hdy
              | dT _ => cases hdy
            subst hy
            have rdy : RD T.K (hide (D :: O) H4) v dy := rb.plain.data
            have hmem : D ∈ D :: O := List.mem_cons_self
            refine ⟨acc, hD4, ?_, _, by omega, rfl, hlt, n4, acc ++ [v], ds ++ [dy], upd_same, ?_, ?_, by rw [List.length_append]; simp; omega, fun b u h1 h2 h3 => by rw [upd_ne (ne_of_none h3 hD)]; exact (fr3.trans f4) b u h1 h2 h3, ?_, q4⟩
            · rw [rds4.len]
              have := cap_le
              omega
            · rw [hide_upd hmem]
              exact rds4.append (.cons rdy .nil)
            · exact envd.updHid hmem hB (fun _ => hDc) (fun z => hDO (env1.sub _ z)) hown
            · rw [hide_upd hmem]; exact s14
    · have e : i = ws.length := by omega
      subst e
      refine .inl ⟨hj.st _ (D :: O) Hc sc' rfl, ?_⟩
      rw [List.drop_length] at qc
      have qc : FinF T c O H Q (.d (.list ds)) nc := qc
      refine qc _ Hc (fun b u h1 h2 h3 => fc b u h1 h2 (f1 b u h1 h2 h3)) envc.st ⟨.d (.lst (by rw [hide_out hDO]; exact hacc) (RDs.mono (hide_sub fun b hb => List.mem_cons_of_mem _ hb) _ _ rds)), fun _ => ⟨D, rfl, hH, .lst hacc rds⟩⟩
end
end DS

set_option Elab.async false
set_option linter.all false
set_option autoImplicit false
set_option maxRecDepth 100000
set_option maxHeartbeats 8000000
/-! DS15: all expressions. -/
namespace DS
open PySem PySem.Spec PySem.SeqAt PyProof.Rows L2
section
variable {T : Stc} {Ex : XK} {X : Cx} {kw : List (Nat × Nat × List Str × List Nat)} {Nm : List Str} {sc : Scope} {Fn : Str → Bool} {ct : Ct} {elt : E} {cs : EL} {tg : Tg} {it : It}
theorem ownOf_map {ct : Ct} : ∀ is : List Nat, (ownOf ct is).map (·.2) = is
  | [] => rfl
  | i :: is => congrArg (i :: ·) (ownOf_map is)
def notSet : Expr → Bool
  | .Set _ _ _ => false
  | _ => true
theorem folded_ok {e : Expr} {env : PySem.Env} (h : notSet e = true) (x : Value) : foldedSetIterable e env x = pure x := by
  cases e <;> first | rfl | cases h
theorem chkI_set {it : It} {ptg pe : Expr} (h : chkI ct sc it ptg pe = true) : notSet pe = true := by
  cases pe <;> first | rfl | (cases it <;> simp [chkI] at h)
theorem f_comp {ptg pit pelt : Expr} {ifs : List Expr} {scope : Scope} {pos : Pos} (xo : XOk T ct.N sc Fn Ex X) (hi : PI X ptg pit (rdI T Ex it)) (hset : notSet pit = true) (hb : blkC ct.N sc scope (ownOf ct tg.is) = true) (htg : chkTg ct (relS scope sc) (fun x => scope.names.lookup x == some .cell) tg ptg = true)
    (hcs : ∀ X', XOk T ct.N (relS scope sc) (fun x => scope.names.lookup x == some .cell) E0 X' → PTs X' ifs (rdC T cs)) (helt : ∀ X', XOk T ct.N (relS scope sc) (fun x => scope.names.lookup x == some .cell) E0 X' → Snd T E0 X' elt pelt) :
    PE X (.ListComp pelt [⟨ptg, pit, ifs, 0⟩] scope pos) (rdF T Ex (.comp tg it cs elt)) := by
  have ok : BlkOk X.N X.env.scope scope (ownOf ct tg.is) := by rw [xo.hN, xo.hsc]; exact blkOk_by hb
  exact PE.weak (pe_lc (pos := pos) xo.calm (by rw [xo.hN]; exact xo.nd) hi ok (fun s H C cl fp => s_tg (xo.blk s H scope cl C fp) tg ptg htg) (fun s H C cl fp => hcs _ (xo.blk s H scope cl C fp)) (fun s H C cl fp => (helt _ (xo.blk s H scope cl C fp)).pf) (folded_ok hset)) fun σ H Q h => s_comp_key (ownOf_map _) (fun _ _ _ h => h) h
/-- name = [..] -/
theorem st_setLc {i : Nat} {y : Str} {py spos : Pos} {ptg pit pelt : Expr} {ifs : List Expr} {scope : Scope} {pos : Pos} (xo : XOk T ct.N sc Fn Ex X) (hy : ct.N[i]? = some y) (hyl : sc.names.lookup y = some .local) (hk : sc.kind = .function) (hl : (py.line == pos.line) = true)
    (hno : (scope.names.any fun (n, k) => n == y && (k == .local || k == .cell)) = false) (hi : PI X ptg pit (rdI T Ex it)) (hset : notSet pit = true) (hb : blkC ct.N sc scope (ownOf ct tg.is) = true) (htg : chkTg ct (relS scope sc) (fun x => scope.names.lookup x == some .cell) tg ptg = true)
    (hcs : ∀ X', XOk T ct.N (relS scope sc) (fun x => scope.names.lookup x == some .cell) E0 X' → PTs X' ifs (rdC T cs)) (helt : ∀ X', XOk T ct.N (relS scope sc) (fun x => scope.names.lookup x == some .cell) E0 X' → Snd T E0 X' elt pelt) :
    PS X (.Assign [.Name y py] (.ListComp pelt [⟨ptg, pit, ifs, 0⟩] scope pos) spos) (tAsg (rdF T Ex (.comp tg it cs elt)) (gName i)) := by
  have ok : BlkOk X.N X.env.scope scope (ownOf ct tg.is) := by rw [xo.hN, xo.hsc]; exact blkOk_by hb
  have h := ps_setLc (pos := pos) (spos := spos) (py := py) xo.calm (by rw [xo.hN]; exact xo.nd) (by rw [xo.hN]; exact hy) (by rw [xo.hsc]; exact hyl) (sw_true (by rw [xo.hsc]; exact hk) (by rw [xo.hsc]; exact hyl) hl hno) hi ok (fun s H C cl fp => s_tg (xo.blk s H scope cl C fp) tg ptg htg) (fun s H C cl fp => hcs _ (xo.blk s H scope cl C fp)) (fun s H C cl fp => (helt _ (xo.blk s H scope cl C fp)).pf) (folded_ok hset)
  exact ⟨fun pins s σ H D I q => h.run pins s σ H D I (s_comp_key (ownOf_map _) (fun _ _ _ h => h) q)⟩
theorem s_comp {ptg pit pelt : Expr} {ifs : List Expr} {scope : Scope} {pos : Pos} (xo : XOk T ct.N sc Fn Ex X) (hi : PI X ptg pit (rdI T Ex it)) (hset : notSet pit = true) (hb : blkC ct.N sc scope (ownOf ct tg.is) = true) (htg : chkTg ct (relS scope sc) (fun x => scope.names.lookup x == some .cell) tg ptg = true)
    (hcs : ∀ X', XOk T ct.N (relS scope sc) (fun x => scope.names.lookup x == some .cell) E0 X' → PTs X' ifs (rdC T cs)) (helt : ∀ X', XOk T ct.N (relS scope sc) (fun x => scope.names.lookup x == some .cell) E0 X' → Snd T E0 X' elt pelt) :
    Snd T Ex X (.comp tg it cs elt) (.ListComp pelt [⟨ptg, pit, ifs, 0⟩] scope pos) := by
  exact .plain (fun _ => rfl) (PE.weak (f_comp xo hi hset hb htg hcs helt) fun σ H Q h => rdE_F (fun _ => rfl) h) (by intro _; rfl)
theorem nameB_ok (xo : XOk T ct.N sc Fn Ex X) {i : Nat} {x : Str} (h : nameB ct sc i x = true) : X.N[i]? = some x ∧ Vis X.env.scope x ∧ (x == ("__debug__" : Str)) = false ∧ (x == ("__classdict__" : Str)) = false := by
  unfold nameB at h
  simp only [Bool.and_eq_true, decide_eq_true_eq, Bool.not_eq_true'] at h
  obtain ⟨⟨⟨h1, h2⟩, h3⟩, h4⟩ := h
  exact ⟨by rw [xo.hN]; exact h1, by rw [xo.hsc]; exact visB_ok h2, h3, h4⟩
theorem s_gl {j : Nat} {x : Str} {p : Pos} (tk : TOk T kw) (xo : XOk T Nm sc Fn Ex X) (hj : T.gn[j]? = some x) (hg : glB sc x = true) : Snd T Ex X (.gl j) (.Name x p) := by
  obtain ⟨w, u, v, h1, h2, h3, h4⟩ := tk.gls j x hj
  refine s_const (v := v) (w := w) (fun c G => h4 c G) (fun r bw => ?_) (pe_glob (gl_of xo hg) (by rw [xo.hmg]; exact h2) h3 (glB_ok hg).2) (by intro _; rfl)
  unfold evE
  rw [h1]
theorem s_fn {f : Nat} {x : Str} {p : Pos} (tk : TOk T kw) (xo : XOk T Nm sc Fn Ex X) (hj : T.fn[f]? = some x) (hg : glB sc x = true) : Snd T Ex X (.fn f) (.Name x p) := by
  obtain ⟨F, n, fd, ps, h1, h2, _⟩ := tk.fns f x hj
  exact s_const (v := .ref (T.fa f)) (w := .fn f) (fun c G => .fn f) (fun r bw => rfl) (pe_glob (gl_of xo hg) (by rw [xo.hmg]; exact h2) rfl (glB_ok hg).2) (by intro _; rfl)
theorem mark_of {op : Cop} {e : E} {pe : Expr} (h : chkE ct sc e pe = true) : behindInMarks (cmpOpOf op) pe = false := by
  cases pe <;> first | rfl | (cases e <;> simp [chkE] at h)
mutual
theorem sE (tk : TOk T ct.kw) (hf : ct.fn = T.fn) (hgn : ct.gn = T.gn) : ∀ (e : E) (sc : Scope) (Fn : Str → Bool) (Ex : XK) (X : Cx) (pe : Expr), XOk T ct.N sc Fn Ex X → chkE ct sc e pe = true → Snd T Ex X e pe
  | .v i, sc, Fn, Ex, X, pe, xo, h => by
    unfold chkE at h
    split at h
    · obtain ⟨h1, h2, h3, h4⟩ := nameB_ok xo h
      exact s_v h1 h2 h3 h4
    · cases h
  | .non, sc, Fn, Ex, X, pe, xo, h => by
    unfold chkE at h
    split at h
    · exact s_const (v := .non) (fun _ _ => .d .non) (fun _ _ => rfl) pe_non (by intro _; rfl)
    · cases h
  | .bl b, sc, Fn, Ex, X, pe, xo, h => by
    unfold chkE at h
    split at h
    · have := beq_iff_eq.mp h
      subst this
      exact s_const (v := .bl b) (fun _ _ => .d (.bl _)) (fun _ _ => rfl) pe_bl (by intro _; rfl)
    · cases h
  | .int i, sc, Fn, Ex, X, pe, xo, h => by
    unfold chkE at h
    split at h
    · have := of_decide_eq_true h
      subst this
      exact s_const (v := .int i) (fun _ _ => .d (.int _)) (fun _ _ => rfl) pe_int (by intro _; rfl)
    · cases h
  | .str s, sc, Fn, Ex, X, pe, xo, h => by
    unfold chkE at h
    split at h
    · have := of_decide_eq_true h
      subst this
      exact s_const (v := .str s) (fun _ _ => .d (.str _)) (fun _ _ => rfl) pe_str (by intro _; rfl)
    · cases h
  | .gl j, sc, Fn, Ex, X, pe, xo, h => by
    unfold chkE at h
    split at h
    · simp only [Bool.and_eq_true, decide_eq_true_eq] at h
      exact s_gl tk xo (by rw [← hgn]; exact h.1) h.2
    · cases h
  | .fn f, sc, Fn, Ex, X, pe, xo, h => by
    unfold chkE at h
    split at h
    · simp only [Bool.and_eq_true, decide_eq_true_eq] at h
      exact s_fn tk xo (by rw [← hf]; exact h.1) h.2
    · cases h
  | .tup es, sc, Fn, Ex, X, pe, xo, h => by
    unfold chkE at h
    split at h
    · simp only [Bool.and_eq_true, decide_eq_true_eq] at h
      exact s_tup (sL tk hf hgn es sc Fn Ex X _ xo h.1).toPA h.2 fun _ _ _ _ q => evL_len q
    · cases h
  | .lst es, sc, Fn, Ex, X, pe, xo, h => by
    unfold chkE at h
    split at h
    · simp only [Bool.and_eq_true, decide_eq_true_eq] at h
      exact s_lst (sL tk hf hgn es sc Fn Ex X _ xo h.1).toPA h.2 fun _ _ _ _ q => evL_len q
    · cases h
  | .dnew, sc, Fn, Ex, X, pe, xo, h => by
    unfold chkE at h
    split at h
    · exact s_dnew
    · cases h
  | .bin op a b, sc, Fn, Ex, X, pe, xo, h => by
    unfold chkE at h
    split at h
    · simp only [Bool.and_eq_true, decide_eq_true_eq] at h
      obtain ⟨⟨h1, h2⟩, h3⟩ := h
      rw [← h1]
      exact s_bin xo.hK (sE tk hf hgn a sc Fn Ex X _ xo h2) (sE tk hf hgn b sc Fn Ex X _ xo h3)
    · cases h
  | .neg a, sc, Fn, Ex, X, pe, xo, h => by
    unfold chkE at h
    split at h
    · exact s_neg (sE tk hf hgn a sc Fn Ex X _ xo h)
    · cases h
  | .cmp op a b, sc, Fn, Ex, X, pe, xo, h => by
    unfold chkE at h
    split at h
    · simp only [Bool.and_eq_true, decide_eq_true_eq] at h
      obtain ⟨⟨h1, h2⟩, h3⟩ := h
      rw [← h1]
      exact s_cmp xo.hK xo.hu (sE tk hf hgn a sc Fn Ex X _ xo h2) (sE tk hf hgn b sc Fn Ex X _ xo h3) (mark_of h3)
    · cases h
  | .chain p q a b d, sc, Fn, Ex, X, pe, xo, h => by
    unfold chkE at h
    split at h
    · simp only [Bool.and_eq_true, decide_eq_true_eq] at h
      obtain ⟨⟨⟨⟨h1, h2⟩, h3⟩, h4⟩, h5⟩ := h
      rw [← h1, ← h2]
      have ha := sE tk hf hgn a sc Fn Ex X _ xo h3
      have hb := sE tk hf hgn b sc Fn Ex X _ xo h4
      have hd := sE tk hf hgn d sc Fn Ex X _ xo h5
      exact s_chain xo.hK xo.hu ha hb hd (mark_of h4) (mark_of h5) (pe_chain (op_cmp (T := T) p xo.hK xo.hu) (op_cmp (T := T) q xo.hK xo.hu) ha.pf hb.pf hd.pf (by have := mark_of (op := q) h5; exact this)) (pt_chain (op_cmp (T := T) p xo.hK xo.hu) (op_cmp (T := T) q xo.hK xo.hu) ha.pf hb.pf hd.pf (by have := mark_of (op := q) h5; exact this))
    · cases h
  | .isN a, sc, Fn, Ex, X, pe, xo, h => by
    unfold chkE at h
    split at h
    · exact s_isN (sE tk hf hgn a sc Fn Ex X _ xo h)
    · cases h
  | .notN a, sc, Fn, Ex, X, pe, xo, h => by
    unfold chkE at h
    split at h
    · exact s_notN (sE tk hf hgn a sc Fn Ex X _ xo h)
    · cases h
  | .bop conj es, sc, Fn, Ex, X, pe, xo, h => by
    unfold chkE at h
    split at h
    · simp only [Bool.and_eq_true, decide_eq_true_eq] at h
      obtain ⟨⟨h1, h2⟩, h3⟩ := h
      have hl := sL tk hf hgn es sc Fn Ex X _ xo h2
      have ho : bopO conj = _ := h1.symm
      rw [← ho]
      refine s_bop hl fun z => ?_
      subst z
      cases hl
      simp at h3
    · cases h
  | .not a, sc, Fn, Ex, X, pe, xo, h => by
    unfold chkE at h
    split at h
    · exact s_not (sE tk hf hgn a sc Fn Ex X _ xo h)
    · cases h
  | .ite c a b, sc, Fn, Ex, X, pe, xo, h => by
    unfold chkE at h
    split at h
    · simp only [Bool.and_eq_true] at h
      exact s_ite (sE tk hf hgn c sc Fn Ex X _ xo h.1.1) (sE tk hf hgn a sc Fn Ex X _ xo h.1.2) (sE tk hf hgn b sc Fn Ex X _ xo h.2)
    · cases h
  | .ix a i, sc, Fn, Ex, X, pe, xo, h => by
    unfold chkE at h
    split at h
    · simp only [Bool.and_eq_true, Bool.not_eq_true'] at h
      exact s_ix xo.hK xo.hu (sE tk hf hgn a sc Fn Ex X _ xo h.1.1) (sE tk hf hgn i sc Fn Ex X _ xo h.1.2) h.2
    · cases h
  | .sl a lo hi, sc, Fn, Ex, X, pe, xo, h => by
    unfold chkE at h
    split at h
    · simp only [Bool.and_eq_true] at h
      obtain ⟨⟨h1, h2⟩, h3⟩ := h
      refine s_sl xo.hK (sE tk hf hgn a sc Fn Ex X _ xo h1) ?_ ?_
      · split at h2
        · cases sL tk hf hgn lo sc Fn Ex X _ xo h2
          exact o_none
        · cases sL tk hf hgn lo sc Fn Ex X _ xo h2 with
          | cons g _ t => exact o_some g
      · split at h3
        · cases sL tk hf hgn hi sc Fn Ex X _ xo h3
          exact o_none
        · cases sL tk hf hgn hi sc Fn Ex X _ xo h3 with
          | cons g _ t => exact o_some g
    · cases h
  | .call f es, sc, Fn, Ex, X, pe, xo, h => by
    unfold chkE at h
    split at h
    · simp only [Bool.and_eq_true, decide_eq_true_eq] at h
      exact s_call tk xo (by rw [← hf]; exact h.1.1) h.1.2 (sL tk hf hgn es sc Fn Ex X _ xo h.2)
    · cases h
  | .callk f np ks perm es, sc, Fn, Ex, X, pe, xo, h => by
    unfold chkE at h
    split at h
    · simp only [Bool.and_eq_true, decide_eq_true_eq] at h
      obtain ⟨⟨⟨⟨⟨⟨⟨h1, h2⟩, h3⟩, h4⟩, h5⟩, h6⟩, h7⟩, h8⟩ := h
      exact s_callk tk xo (by rw [← hf]; exact h1) h2 h3 h4 h5 h6 (sL tk hf hgn es sc Fn Ex X _ xo h7)
    · cases h
  | .callv i es, sc, Fn, Ex, X, pe, xo, h => by
    unfold chkE at h
    split at h
    · simp only [Bool.and_eq_true, Bool.not_eq_true'] at h
      obtain ⟨⟨h0, h2⟩, h3⟩ := h
      obtain ⟨g1, g2, g3, g4⟩ := nameB_ok xo h0
      exact s_callv tk xo g1 g2 g3 g4 (sL tk hf hgn es sc Fn Ex X _ xo h2) (fun z => by rw [z] at h3; cases h3)
    · cases h
  | .b1 b a, sc, Fn, Ex, X, pe, xo, h => by
    unfold chkE at h
    split at h
    · simp only [Bool.and_eq_true, decide_eq_true_eq] at h
      obtain ⟨⟨h1, h2⟩, h3⟩ := h
      subst h1
      by_cases hb : b = .listRange
      · subst hb
        rw [if_pos rfl] at h3
        split at h3
        · simp only [Bool.and_eq_true, decide_eq_true_eq] at h3
          obtain ⟨⟨g1, g2⟩, g3⟩ := h3
          subst g1
          exact s_lr tk xo (sE tk hf hgn a sc Fn Ex X _ xo g3) (chk_star g3) h2 g2
        · cases h3
      · rw [if_neg hb] at h3
        exact s_b1 tk xo (sE tk hf hgn a sc Fn Ex X _ xo h3) (chk_star h3) h2 hb
    · cases h
  | .isi a t, sc, Fn, Ex, X, pe, xo, h => by
    unfold chkE at h
    split at h
    · simp only [Bool.and_eq_true, decide_eq_true_eq] at h
      obtain ⟨⟨⟨h1, h2⟩, h3⟩, h4⟩ := h
      subst h1
      exact s_isi tk xo (sE tk hf hgn a sc Fn Ex X _ xo h3) (chk_star h3) h2 h4
    · cases h
  | .comp tg it cs elt, sc, Fn, Ex, X, pe, xo, h => by
    unfold chkE at h
    split at h
    · simp only [Bool.and_eq_true, decide_eq_true_eq] at h
      obtain ⟨⟨⟨⟨⟨⟨h1, h2⟩, h3⟩, h4⟩, h5⟩, h6⟩, h7⟩ := h
      subst h1
      refine s_comp xo (sI tk hf hgn it sc Fn Ex X _ _ xo h2) (chkI_set h2) h7 h3 (fun X' xo' => ?_) fun X' xo' => sE tk hf hgn elt _ _ _ X' _ xo' h6
      have hl := sL tk hf hgn cs _ _ _ X' _ xo' h4
      cases hl with
      | nil => exact c_nil
      | cons g _ t => cases t with
        | nil => exact c_one g
        | cons _ _ _ => simp [EL.len] at h5
    · cases h
theorem sL (tk : TOk T ct.kw) (hf : ct.fn = T.fn) (hgn : ct.gn = T.gn) : ∀ (es : EL) (sc : Scope) (Fn : Str → Bool) (Ex : XK) (X : Cx) (ps : List Expr), XOk T ct.N sc Fn Ex X → chkL ct sc es ps = true → SndL T Ex X es ps
  | .nil, sc, Fn, Ex, X, ps, xo, h => by
    unfold chkL at h
    split at h
    · exact .nil
    · cases h
  | .cons e es, sc, Fn, Ex, X, ps, xo, h => by
    unfold chkL at h
    split at h
    · simp only [Bool.and_eq_true] at h
      exact .cons (sE tk hf hgn e sc Fn Ex X _ xo h.1) (chk_star h.1) (sL tk hf hgn es sc Fn Ex X _ xo h.2)
    · cases h
theorem sI (tk : TOk T ct.kw) (hf : ct.fn = T.fn) (hgn : ct.gn = T.gn) : ∀ (it : It) (sc : Scope) (Fn : Str → Bool) (Ex : XK) (X : Cx) (ptg pe : Expr), XOk T ct.N sc Fn Ex X → chkI ct sc it ptg pe = true → PI X ptg pe (rdI T Ex it)
  | .of a, sc, Fn, Ex, X, ptg, pe, xo, h => by
    unfold chkI at h
    simp only [Bool.and_eq_true] at h
    exact i_of xo (sE tk hf hgn a sc Fn Ex X _ xo h.1.1)
  | .rng1 a, sc, Fn, Ex, X, ptg, pe, xo, h => by
    unfold chkI at h
    split at h
    · simp only [Bool.and_eq_true, decide_eq_true_eq] at h
      obtain ⟨⟨h1, h2⟩, h3⟩ := h
      subst h1
      exact i_rng1 tk xo (sE tk hf hgn a sc Fn Ex X _ xo h3) (chk_star h3) h2
    · cases h
  | .rng2 a b, sc, Fn, Ex, X, ptg, pe, xo, h => by
    unfold chkI at h
    split at h
    · simp only [Bool.and_eq_true, decide_eq_true_eq] at h
      obtain ⟨⟨⟨h1, h2⟩, h3⟩, h4⟩ := h
      subst h1
      exact i_rng2 tk xo (sE tk hf hgn a sc Fn Ex X _ xo h3) (chk_star h3) (sE tk hf hgn b sc Fn Ex X _ xo h4) (chk_star h4) h2
    · cases h
  | .enum a, sc, Fn, Ex, X, ptg, pe, xo, h => by
    unfold chkI at h
    split at h
    · simp only [Bool.and_eq_true, decide_eq_true_eq] at h
      obtain ⟨⟨⟨h1, h2⟩, h3⟩, h4⟩ := h
      subst h1
      unfold isTup at h4
      split at h4
      · exact i_enum tk xo (sE tk hf hgn a sc Fn Ex X _ xo h3) (chk_star h3) h2
      · cases h4
    · cases h
  | .zip a b, sc, Fn, Ex, X, ptg, pe, xo, h => by
    unfold chkI at h
    split at h
    · simp only [Bool.and_eq_true, decide_eq_true_eq] at h
      obtain ⟨⟨⟨⟨h1, h2⟩, h3⟩, h4⟩, h5⟩ := h
      subst h1
      unfold isTup at h5
      split at h5
      · exact i_zip tk xo (sE tk hf hgn a sc Fn Ex X _ xo h3) (chk_star h3) (sE tk hf hgn b sc Fn Ex X _ xo h4) (chk_star h4) h2
      · cases h5
    · cases h
  | .rev a, sc, Fn, Ex, X, ptg, pe, xo, h => by
    unfold chkI at h
    split at h
    · simp only [Bool.and_eq_true, decide_eq_true_eq] at h
      obtain ⟨⟨h1, h2⟩, h3⟩ := h
      subst h1
      exact i_rev tk xo (sE tk hf hgn a sc Fn Ex X _ xo h3) (chk_star h3) h2
    · cases h
end
theorem compC (tk : TOk T ct.kw) (hf : ct.fn = T.fn) (hgn : ct.gn = T.gn) {sc' : Scope} {Fn' : Str → Bool} {ifs : List Expr} (h4 : chkL ct sc' cs ifs = true) (h5 : cs.len ≤ 1) (X' : Cx) (xo' : XOk T ct.N sc' Fn' E0 X') : PTs X' ifs (rdC T cs) := by
  have hl := sL tk hf hgn cs _ _ _ X' _ xo' h4
  cases hl with
  | nil => exact c_nil
  | cons g _ t => cases t with
    | nil => exact c_one g
    | cons _ _ _ => simp [EL.len] at h5
theorem compF (tk : TOk T ct.kw) (hf : ct.fn = T.fn) (hgn : ct.gn = T.gn) {ptg pit pelt : Expr} {ifs : List Expr} {scope : Scope} {pos : Pos} (xo : XOk T ct.N sc Fn Ex X) (h2 : chkI ct sc it ptg pit = true) (h3 : chkTg ct (relS scope sc) (fun x => scope.names.lookup x == some .cell) tg ptg = true)
    (h4 : chkL ct (relS scope sc) cs ifs = true) (h5 : cs.len ≤ 1) (h6 : chkE ct (relS scope sc) elt pelt = true) (h7 : blkC ct.N sc scope (ownOf ct tg.is) = true) : PE X (.ListComp pelt [⟨ptg, pit, ifs, 0⟩] scope pos) (rdF T Ex (.comp tg it cs elt)) :=
  f_comp xo (sI tk hf hgn it sc Fn Ex X _ _ xo h2) (chkI_set h2) h7 h3 (fun X' xo' => compC tk hf hgn h4 h5 X' xo') fun X' xo' => sE tk hf hgn elt _ _ _ X' _ xo' h6
end
end DS

set_option Elab.async false
set_option linter.all false
set_option autoImplicit false
set_option maxRecDepth 100000
set_option maxHeartbeats 4000000
/-! DS16: names that own lists; what is new. -/
namespace DS
open PySem PySem.Spec PySem.SeqAt PyProof.Rows L2
section
variable {K : Frag} {fa : Nat → Addr} {c : StA} {N N' : Nat} {Oi O : List Addr} {B H H' : Hp} {σ : L2.St} {r : Env}
theorem get_lt' {α : Type} {l : List α} {i : Nat} {x : α} (h : l[i]? = some x) : i < l.length := by
  by_cases q : i < l.length
  · exact q
  · rw [List.getElem?_eq_none (by omega)] at h; cases h
/-- a name's own list is shown -/
theorem EnvOk.dem1 (i : Nat) (e : EnvOk K fa c N Oi B O H σ r) : ∃ O', EnvOk K fa c N Oi B O' H σ (DS.dem1 r i) ∧ ∀ b ∈ O', b ∈ O := by
  unfold DS.dem1
  split
  · rename_i w hi
    obtain ⟨a, h1, h2, h3, h4, h5⟩ := e.ow i w hi
    have lt := get_lt' hi
    have sub : ∀ b ∈ O.filter (fun b => decide (b ≠ a)), b ∈ O := fun b hb => (List.mem_filter.mp hb).1
    have keep : ∀ b ∈ O, b ≠ a → b ∈ O.filter (fun b => decide (b ≠ a)) := fun b hb n => List.mem_filter.mpr ⟨hb, by simpa using n⟩
    have out : a ∉ O.filter (fun b => decide (b ≠ a)) := fun z => by simpa using (List.mem_filter.mp z).2
    refine ⟨O.filter (fun b => decide (b ≠ a)), ?_, sub⟩
    exact {
      sub := fun b hb => keep b (e.sub b hb) fun z => h4 (z ▸ hb)
      sO := e.sO
      lO := e.lO
      cB := e.cB
      trk := fun b hb => e.trk b (sub b hb)
      st := e.st
      fr := e.fr
      len := by simp [e.len]
      sh := fun j u hj => by
        by_cases q : i = j
        · subst q
          rw [List.getElem?_set_self lt] at hj
          cases hj
          exact ⟨_, h1, h5.show (hide_sub sub) (hide_out out)⟩
        · rw [List.getElem?_set_ne q] at hj
          obtain ⟨v, g1, g2⟩ := e.sh j u hj
          exact ⟨v, g1, g2.mono (hide_sub sub)⟩
      ow := fun j u hj => by
        by_cases q : i = j
        · subst q
          rw [List.getElem?_set_self lt] at hj
          cases hj
        · rw [List.getElem?_set_ne q] at hj
          obtain ⟨b, g1, g2, g3, g4, g5⟩ := e.ow j u hj
          have n : b ≠ a := fun z => by subst z; exact q (e.inj i j w u b hi hj h1 g1)
          exact ⟨b, g1, keep b g2 n, g3, g4, g5.mono (hide_sub sub) rfl⟩
      inj := fun j k w1 w2 b g1 g2 g3 g4 => by
        by_cases q : i = j
        · subst q
          rw [List.getElem?_set_self lt] at g1
          cases g1
        · by_cases q2 : i = k
          · subst q2
            rw [List.getElem?_set_self lt] at g2
            cases g2
          · rw [List.getElem?_set_ne q] at g1
            rw [List.getElem?_set_ne q2] at g2
            exact e.inj j k w1 w2 b g1 g2 g3 g4 }
  · exact ⟨O, e, fun _ h => h⟩
theorem EnvOk.dem (e : EnvOk K fa c N Oi B O H σ r) (is : List Nat) : ∃ O', EnvOk K fa c N Oi B O' H σ (DS.dem r is) ∧ ∀ b ∈ O', b ∈ O := by
  induction is generalizing r O with
  | nil => exact ⟨O, e, fun _ h => h⟩
  | cons i is ih =>
    obtain ⟨O1, e1, s1⟩ := e.dem1 i
    obtain ⟨O2, e2, s2⟩ := ih e1
    exact ⟨O2, e2, fun b hb => s1 b (s2 b hb)⟩
/-- what is new is hidden -/
theorem same_hideOld {a : Addr} (f : Fr c H H') (h1 : c.sa ∈ O) (h2 : c.la ∈ O) (ha : H a = none) : Same (hide O H) (hide (a :: O) H') := fun b o e => by
  obtain ⟨hb, e⟩ := hide_some e
  have n : b ≠ a := fun z => by rw [z, ha] at e; cases e
  rw [hide_out (by simp [n, hb])]
  exact f b o (fun q => hb (q ▸ h1)) (fun q => hb (q ▸ h2)) e
theorem EnvOk.hideOld {a : Addr} {o : HO} (e : EnvOk K fa c N Oi B O H σ r) (f : Fr c H H') (s : StOk c N' H') (ha : H a = none) (ho : H' a = some o) : EnvOk K fa c N' Oi B (a :: O) H' σ r :=
  let e1 := e.step f s
  have sm : Same (hide O H) (hide (a :: O) H') := same_hideOld f e.sO' e.lO' ha
  { sub := fun b hb => List.mem_cons_of_mem _ (e.sub b hb)
    sO := e.sO
    lO := e.lO
    cB := e.cB
    trk := fun b hb => by
      rcases List.mem_cons.mp hb with z | z
      · subst z; exact ⟨o, ho⟩
      · exact e1.trk b z
    st := s
    fr := e1.fr
    len := e.len
    sh := fun i w hw => by
      obtain ⟨v, h1, h2⟩ := e.sh i w hw
      exact ⟨v, h1, h2.mono sm⟩
    ow := fun i w hw => by
      obtain ⟨b, h1, h2, h3, h4, h5⟩ := e.ow i w hw
      obtain ⟨u, hu⟩ := e.trk b h2
      have n1 : b ≠ c.sa := fun q => h4 (q ▸ e.sO)
      have n2 : b ≠ c.la := fun q => h4 (q ▸ e.lO)
      exact ⟨b, h1, List.mem_cons_of_mem _ h2, h3, h4, h5.mono sm ((f b u n1 n2 hu).trans hu.symm)⟩
    inj := e.inj }
/-- a name comes to own what is hidden and not yet owned -/
theorem EnvOk.setOw {i : Nat} {a : Addr} {w : W} (e : EnvOk K fa c N Oi B O H σ r) (hi : i < r.length) (ha : a ∈ O) (hB : B a = none) (hO : a ∉ Oi) (o : Own K fa c (hide O H) H a w) (un : ∀ (j : Nat) u, r[j]? = some (.ow u) → σ[j]? ≠ some (some (.ref a))) :
    EnvOk K fa c N Oi B O H (σ.set i (some (.ref a))) (r.set i (.ow w)) where
  sub := e.sub
  sO := e.sO
  lO := e.lO
  cB := e.cB
  trk := e.trk
  st := e.st
  fr := e.fr
  len := by simp [e.len]
  sh := fun j u hj => by
    by_cases q : i = j
    · subst q
      rw [List.getElem?_set_self hi] at hj
      cases hj
    · rw [List.getElem?_set_ne q] at hj ⊢
      exact e.sh j u hj
  ow := fun j u hj => by
    by_cases q : i = j
    · subst q
      rw [List.getElem?_set_self hi] at hj
      cases hj
      exact ⟨a, List.getElem?_set_self (by rw [e.len]; exact hi), ha, hB, hO, o⟩
    · rw [List.getElem?_set_ne q] at hj ⊢
      exact e.ow j u hj
  inj := fun j k w1 w2 b h1 h2 h3 h4 => by
    by_cases q : i = j
    · subst q
      by_cases q2 : i = k
      · exact q2
      · rw [List.getElem?_set_self (by rw [e.len]; exact hi)] at h3
        cases h3
        rw [List.getElem?_set_ne q2] at h2 h4
        exact absurd h4 (un k w2 h2)
    · rw [List.getElem?_set_ne q] at h1 h3
      by_cases q2 : i = k
      · subst q2
        rw [List.getElem?_set_self (by rw [e.len]; exact hi)] at h4
        cases h4
        exact absurd h3 (un j w1 h1)
      · rw [List.getElem?_set_ne q2] at h2 h4
        exact e.inj j k w1 w2 b h1 h2 h3 h4
/-- an own list is written -/
theorem EnvOk.updOwn {i : Nat} {a : Addr} {w w' : W} {o : HO} (e : EnvOk K fa c N Oi B O H σ r) (hr : r[i]? = some (.ow w)) (hs : σ[i]? = some (some (.ref a))) (hw : Own K fa c (hide O H) (upd H a o) a w') : EnvOk K fa c N Oi B O (upd H a o) σ (r.set i (.ow w')) := by
  obtain ⟨a', g1, g2, g3, g4, g5⟩ := e.ow i w hr
  rw [hs] at g1
  cases g1
  have lt := get_lt' hr
  have he : hide O (upd H a o) = hide O H := hide_upd g2
  exact {
    sub := e.sub
    sO := e.sO
    lO := e.lO
    cB := e.cB
    trk := fun b hb => by
      by_cases q : b = a
      · subst q; exact ⟨o, upd_same⟩
      · rw [upd_ne q]; exact e.trk b hb
    st := by
      obtain ⟨⟨cs, ls, n, h1, h2, h3, h4⟩, h5⟩ := e.st
      have n1 : c.sa ≠ a := fun z => g4 (z ▸ e.sO)
      have n2 : c.la ≠ a := fun z => g4 (z ▸ e.lO)
      have n3 : c.ca ≠ a := fun z => by
        exact e.cB (by rw [z]; exact g3)
      exact ⟨⟨cs, ls, n, by rw [upd_ne n1]; exact h1, by rw [upd_ne n3]; exact h2, by rw [upd_ne n2]; exact h3, h4⟩, h5⟩
    fr := fun b u h1 h2 h3 => by
      have q : b ≠ a := fun z => by rw [z, g3] at h3; cases h3
      rw [upd_ne q]
      exact e.fr b u h1 h2 h3
    len := by simp [e.len]
    sh := fun j u hj => by
      rw [he]
      by_cases q : i = j
      · subst q
        rw [List.getElem?_set_self lt] at hj
        cases hj
      · rw [List.getElem?_set_ne q] at hj
        exact e.sh j u hj
    ow := fun j u hj => by
      rw [he]
      by_cases q : i = j
      · subst q
        rw [List.getElem?_set_self lt] at hj
        cases hj
        exact ⟨a, hs, g2, g3, g4, hw⟩
      · rw [List.getElem?_set_ne q] at hj
        obtain ⟨b, h1, h2, h3, h4, h5⟩ := e.ow j u hj
        have n : b ≠ a := fun z => by subst z; exact q (e.inj i j w u b hr hj hs h1)
        exact ⟨b, h1, h2, h3, h4, h5.mono (Same.refl _) (upd_ne n)⟩
    inj := fun j k w1 w2 b h1 h2 h3 h4 => by
      have back : ∀ {j : Nat} {u : W}, (r.set i (.ow w'))[j]? = some (.ow u) → ∃ u', r[j]? = some (.ow u') := fun {j u} hj => by
        by_cases q : i = j
        · subst q; exact ⟨w, hr⟩
        · rw [List.getElem?_set_ne q] at hj; exact ⟨u, hj⟩
      obtain ⟨u1, k1⟩ := back h1
      obtain ⟨u2, k2⟩ := back h2
      exact e.inj j k u1 u2 b k1 k2 h3 h4 }
end
end DS

set_option Elab.async false
set_option linter.all false
set_option autoImplicit false
set_option maxRecDepth 100000
set_option maxHeartbeats 4000000
/-! DS17: readings of what is new; several values at once. -/
namespace DS
open PySem PySem.Spec PySem.SeqAt PyProof.Rows L2
section
variable {T : Stc} {Ex : XK} {X : Cx} {kw : List (Nat × Nat × List Str × List Nat)} {Nm : List Str} {sc : Scope} {Fn : Str → Bool} {ct : Ct} {a b e : E} {es : EL} {pa pb pe : Expr} {ps : List Expr} {c : StA} {O Oi : List Addr} {H H1 B : Hp} {N n : Nat} {σ : L2.St} {r : Env} {Q : VK} {pos p : Pos}
theorem f_lst (h : PA X ps (rdL T Ex es)) (hl : es.len ≤ 1000) : PE X (.List ps pos) (rdF T Ex (.lst es)) := PE.weak (pe_lst h) fun σ H Q ⟨c, N, Oi, B, O, r, env, q⟩ => by
  have q := M.wp_bind.mp q
  refine ⟨c, N, Oi, B, O, r, env, M.wp_mono ?_ (fun _ _ x => x) (evL_len q)⟩
  intro ws n ⟨hn, q⟩ vs H1 f s rws
  have env1 := env.step f s
  cases hd : datas ws with
  | none => rw [hd] at q; exact q.elim
  | some ds =>
    rw [hd] at q
    have rd := rws.datas hd
    refine ⟨?_, (fin_ansF env1 f q).lst env1.at rd⟩
    rw [rws.len, hn, sizeLine_eq]; omega
theorem f_dnew : PE X (.Dict [] [] pos) (rdF T Ex .dnew) := PE.weak pe_dnewK fun σ H Q ⟨c, N, Oi, B, O, r, env, q⟩ p hp => by
  have q : FinF T c O H Q (.dK []) N := q
  exact fin_ansF env Fr.refl q _ _ (same_new hp) ⟨.dK (by rw [hide_out (env.fresh hp)]; exact upd_same) .nil, fun _ => ⟨p, rfl, hp, .dK upd_same .nil⟩⟩
theorem f_bin {op : Bop} (hK : X.K = T.K) (ha : Snd T Ex X a pa) (hb : Snd T Ex X b pb) : PE X (.BinOp pa (bopOf op) pb pos) (rdF T Ex (.bin op a b)) := PE.weak (pe_op (op_bin op hK) ha.pt hb.pt) fun σ H Q ⟨c, N, Oi, B, O, r, env, q⟩ => by
  unfold evE at q
  refine rd1 env q fun x n v H1 f1 env1 rb q1 => rd1 env1 q1 fun y n2 v2 H2 f2 env2 rb2 q2 => ?_
  obtain ⟨w, hw, q3⟩ := opt_wp q2
  exact ⟨c, O, true, true, x, y, w, env2.at, rb.step f2 env1.sO' env1.lO' env1.trk, rb2, hw, fin_ansF env2 (f1.trans f2) q3⟩
theorem b1_keyF {f : W → Option W} (q : ((evE T.fs T.gs r true a).bind fun x => opt (f x)).wp N (FinF T c O H Q) (EX T Ex c O H)) (env : EOk T c N Oi B O H σ r) : tCB (rB1 T f) (tCons (rdE T Ex true a) tNil) σ H Q := by
  refine rd1 env q fun x n v H1 f1 env1 rb q1 => ?_
  obtain ⟨w, hw, q2⟩ := opt_wp q1
  exact ⟨v, c, O, true, x, w, rfl, env1.at, rb, hw, fin_ansF env1 f1 q2⟩
theorem f_b1 {bb : B1} (tk : TOk T kw) (xo : XOk T Nm sc Fn Ex X) (ha : Snd T Ex X a pa) (hs : star pa = false) (hg : glB sc (b1N bb) = true) (hb : bb = .list ∨ bb = .sorted) : PE X (.Call (.Name (b1N bb) p) [pa] [] pos) (rdF T Ex (.b1 bb a)) := by
  have G := gl_of xo hg
  rcases hb with rfl | rfl
  · exact PE.weak (pe_callTy (call_list_w (T := T) xo.hK) G (mgn tk xo (by decide)) (by decide +kernel) (arg1 ha hs) (by decide) (by decide) (star_each hs) rfl) fun σ H Q ⟨c, N, Oi, B, O, r, env, q⟩ => b1_keyF (f := listW) (by unfold evE at q; exact q) env
  · exact PE.weak (pe_callB (call_sorted_w (T := T) xo.calm) G (mgn tk xo (by decide)) (by decide +kernel) (arg1 ha hs) (by decide) (by decide) (star_each hs) rfl) fun σ H Q ⟨c, N, Oi, B, O, r, env, q⟩ => b1_keyF (f := sortedW) (by unfold evE at q; exact q) env
theorem f_lr {p2 pos2 : Pos} (tk : TOk T kw) (xo : XOk T Nm sc Fn Ex X) (ha : Snd T Ex X a pa) (hs : star pa = false) (hg : glB sc "list" = true) (hg2 : glB sc "range" = true) : PE X (.Call (.Name "list" p) [.Call (.Name "range" p2) [pa] [] pos2] [] pos) (rdF T Ex (.b1 .listRange a)) :=
  PE.weak (pe_lr tk xo ha.pt hs hg hg2) fun σ H Q ⟨c, N, Oi, B, O, r, env, q⟩ => lr_key (M.wp_mono (fun w n h H1 f s => fin_ansF (env.step f s) f h) (fun _ _ x => x) q) env

/-- a reading that tells what is new -/
def RFx (T : Stc) (c : StA) (O : List Addr) (H H' : Hp) (e : E) (v : V) (w : W) : Prop := RW T.K T.fa c (hide O H') v w ∧ ((fresh e && isBox w) = true → ∃ a, v = .ref a ∧ H a = none ∧ Own T.K T.fa c (hide (a :: O) H') H' a w)
def FinX (T : Stc) (c : StA) (O : List Addr) (H : Hp) (e : E) (Q : VK) : W → Nat → Prop := fun w n => ∀ v H', Fr c H H' → StOk c n H' → RFx T c O H H' e v w → Q v H'
def rdX (T : Stc) (Ex : XK) (e : E) : TE := fun σ H Q => ∃ c N Oi B O r, EOk T c N Oi B O H σ r ∧ (evE T.fs T.gs r false e).wp N (FinX T c O H e Q) (EX T Ex c O H)
theorem x_old (hf : fresh e = false) (h : PE X pe (rdE T Ex false e)) : PE X pe (rdX T Ex e) := PE.weak h fun σ H Q ⟨c, N, Oi, B, O, r, env, q⟩ =>
  ⟨c, N, Oi, B, O, r, env, M.wp_mono (fun w n k v H' f s rb => k v H' f s ⟨rb.plain, fun z => by rw [hf] at z; cases z⟩) (fun _ _ x => x) q⟩
theorem x_new (h : PE X pe (rdF T Ex e)) : PE X pe (rdX T Ex e) := PE.weak h fun σ H Q ⟨c, N, Oi, B, O, r, env, q⟩ =>
  ⟨c, N, Oi, B, O, r, env, M.wp_mono (fun w n k v H' f s rb => k v H' f s ⟨rb.1, fun z => rb.2 (by simp only [Bool.and_eq_true] at z; exact z.2)⟩) (fun _ _ x => x) q⟩
theorem x_F {tF : TE} (hf : ∀ σ H Q, rdF T Ex e σ H Q → tF σ H Q) : ∀ σ H Q, rdX T Ex e σ H Q → (fresh e = true) → tF σ H Q := fun σ H Q ⟨c, N, Oi, B, O, r, env, q⟩ hfr =>
  hf σ H Q ⟨c, N, Oi, B, O, r, env, M.wp_mono (fun w n k v H' f s rb => k v H' f s ⟨rb.1, fun z => rb.2 (by
    simp only [Bool.and_eq_true] at z; exact z.2)⟩) (fun _ _ x => x) q⟩
end
section
variable {T : Stc} {Ex : XK} {X : Cx} {ct : Ct}
theorem sX (tk : TOk T ct.kw) (hf : ct.fn = T.fn) (hgn : ct.gn = T.gn) (e : E) (sc : Scope) (Fn : Str → Bool) (Ex : XK) (X : Cx) (pe : Expr) (xo : XOk T ct.N sc Fn Ex X) (h : chkE ct sc e pe = true) : PE X pe (rdX T Ex e) := by
  cases hfr : fresh e with
  | false => exact x_old hfr (sE tk hf hgn e sc Fn Ex X pe xo h).pf
  | true =>
    refine x_new ?_
    cases e with
    | lst es =>
      unfold chkE at h
      split at h
      · simp only [Bool.and_eq_true, decide_eq_true_eq] at h
        exact f_lst (sL tk hf hgn es sc Fn Ex X _ xo h.1).toPA h.2
      · cases h
    | dnew =>
      unfold chkE at h
      split at h
      · exact f_dnew
      · cases h
    | bin op a b =>
      unfold chkE at h
      split at h
      · simp only [Bool.and_eq_true, decide_eq_true_eq] at h
        obtain ⟨⟨h1, h2⟩, h3⟩ := h
        rw [← h1]
        exact f_bin xo.hK (sE tk hf hgn a sc Fn Ex X _ xo h2) (sE tk hf hgn b sc Fn Ex X _ xo h3)
      · cases h
    | b1 b a =>
      unfold chkE at h
      split at h
      · simp only [Bool.and_eq_true, decide_eq_true_eq] at h
        obtain ⟨⟨h1, h2⟩, h3⟩ := h
        subst h1
        by_cases hb : b = .listRange
        · subst hb
          rw [if_pos rfl] at h3
          split at h3
          · simp only [Bool.and_eq_true, decide_eq_true_eq] at h3
            obtain ⟨⟨g1, g2⟩, g3⟩ := h3
            subst g1
            exact f_lr tk xo (sE tk hf hgn a sc Fn Ex X _ xo g3) (chk_star g3) h2 g2
          · cases h3
        · rw [if_neg hb] at h3
          exact f_b1 tk xo (sE tk hf hgn a sc Fn Ex X _ xo h3) (chk_star h3) h2 (by
            cases b <;> first | exact .inl rfl | exact .inr rfl | (exact absurd rfl hb) | (simp [fresh] at hfr))
      · cases h
    | comp tg it cs elt =>
      unfold chkE at h
      split at h
      · simp only [Bool.and_eq_true, decide_eq_true_eq] at h
        obtain ⟨⟨⟨⟨⟨⟨h1, h2⟩, h3⟩, h4⟩, h5⟩, h6⟩, h7⟩ := h
        subst h1
        exact compF tk hf hgn xo h2 h3 h4 h5 h6 h7
      · cases h
    | _ => simp [fresh] at hfr
end
end DS

set_option Elab.async false
set_option linter.all false
set_option autoImplicit false
set_option maxRecDepth 100000
set_option maxHeartbeats 4000000
/-! DS18: what is wanted behind statements; stores of names. -/
namespace DS
open PySem PySem.Spec PySem.SeqAt PyProof.Rows L2

inductive Itms (T : Stc) (c : StA) (Oi O : List Addr) (B H : Hp) : EL → List V → List W → List Addr → Prop
  | nil : Itms T c Oi O B H .nil [] [] []
  | sh {e : E} {es : EL} {v : V} {vs : List V} {w : W} {ws : List W} {as : List Addr} : (fresh e && isBox w) = false → RW T.K T.fa c (hide O H) v w → Itms T c Oi O B H es vs ws as → Itms T c Oi O B H (.cons e es) (v :: vs) (w :: ws) as
  | ow {e : E} {es : EL} {a : Addr} {vs : List V} {w : W} {ws : List W} {as : List Addr} : (fresh e && isBox w) = true → a ∈ O → B a = none → a ∉ Oi → Own T.K T.fa c (hide O H) H a w → Itms T c Oi O B H es vs ws as →
      Itms T c Oi O B H (.cons e es) (.ref a :: vs) (w :: ws) (a :: as)
/-- several values, what is new hidden -/
def FinLo (T : Stc) (c : StA) (Oi : List Addr) (B : Hp) (O : List Addr) (H : Hp) (σ : L2.St) (r : Env) (es : EL) (Q : List V → Hp → Prop) : List W → Nat → Prop := fun ws n => ∀ vs O' H' as, Fr c H H' → EOk T c n Oi B O' H' σ r → (∀ b ∈ O, b ∈ O') →
  Same (hide O H) (hide O' H') → Itms T c Oi O' B H' es vs ws as → as.Nodup → (∀ a ∈ as, a ∉ O) → Q vs H'
def rdLo (T : Stc) (Ex : XK) (es : EL) : TA := fun σ H Q => ∃ c N Oi B O r, EOk T c N Oi B O H σ r ∧ (evL T.fs T.gs r es).wp N (FinLo T c Oi B O H σ r es Q) (EX T Ex c O H)
section
variable {T : Stc} {Ex : XK} {X : Cx} {kw : List (Nat × Nat × List Str × List Nat)} {Nm : List Str} {sc : Scope} {Fn : Str → Bool} {ct : Ct} {e : E} {es : EL} {p : Expr} {ps : List Expr} {c : StA} {O O1 Oi : List Addr} {H H1 B : Hp} {N n : Nat} {σ : L2.St} {r : Env}
theorem XR.sub {x : Exc} {cls : Value} {d : Option Addr} (hs : ∀ b ∈ O, b ∈ O1) (h : XR T O1 H x cls d) : XR T O H x cls d := by
  obtain ⟨h1, h2⟩ := h
  refine ⟨h1, ?_⟩
  rcases h2 with h2 | ⟨dx, fs, h3, h4, h5, h6⟩
  · exact .inl h2
  · exact .inr ⟨dx, fs, h3, fun z => h4 (hs _ z), h5, h6.mono (hide_sub hs)⟩
theorem EX.wider (f : Fr c H H1) (hs : ∀ b ∈ O, b ∈ O1) {x : Exc} {n : Nat} (h : EX T Ex c O H x n) : EX T Ex c O1 H1 x n := fun cls d H' f' s q => h cls d H' (f.trans f') s (q.sub hs)
theorem lo_nil : PA X [] (rdLo T Ex .nil) := PA.weak pa_nil fun σ H Q ⟨c, N, Oi, B, O, r, env, q⟩ => by
  have q : FinLo T c Oi B O H σ r .nil Q [] N := q
  exact q [] O H [] Fr.refl env (fun _ h => h) (Same.refl _) .nil List.nodup_nil (fun _ h => by simp at h)
theorem lo_cons (h1 : PE X p (rdX T Ex e)) (h2 : PA X ps (rdLo T Ex es)) (hs : star p = false) : PA X (p :: ps) (rdLo T Ex (.cons e es)) :=
  PA.weak (pa_cons h1 h2 (star_each hs)) fun σ H Q ⟨c, N, Oi, B, O, r, env, q⟩ => by
    unfold evL at q
    refine ⟨c, N, Oi, B, O, r, env, M.wp_mono (fun w n q v H1 f s rx => ?_) (fun _ _ x => x) (M.wp_bind.mp q)⟩
    have q := M.wp_bind.mp q
    obtain ⟨rw1, ow1⟩ := rx
    cases hb : (fresh e && isBox w) with
    | false =>
      have env1 := env.step f s
      refine ⟨c, n, Oi, B, O, r, env1, M.wp_mono (fun ws n2 q2 vs O' H' as f2 env2 sub sm it nd no => ?_) (fun x n h => h.step f) q⟩
      have q2 : FinLo T c Oi B O H σ r (.cons e es) Q (w :: ws) n2 := q2
      exact q2 (v :: vs) O' H' as (f.trans f2) env2 sub ((f.hide env.sO' env.lO').trans sm) (.sh hb (rw1.mono sm) it) nd no
    | true =>
      obtain ⟨a, rfl, ha, own⟩ := ow1 hb
      have hta : ∃ o, H1 a = some o := by cases own <;> exact ⟨_, by assumption⟩
      obtain ⟨o, ho⟩ := hta
      have env1 := env.hideOld f s ha ho
      have haO : a ∉ O := env.fresh ha
      have hBa : B a = none := fr_none env.fr env.st ha
      refine ⟨c, n, Oi, B, a :: O, r, env1, M.wp_mono (fun ws n2 q2 vs O' H' as f2 env2 sub sm it nd no => ?_) (fun x n h => h.wider f fun b hb => List.mem_cons_of_mem _ hb) q⟩
      have q2 : FinLo T c Oi B O H σ r (.cons e es) Q (w :: ws) n2 := q2
      have n1 : a ≠ c.sa := fun z => haO (z ▸ env.sO')
      have n2' : a ≠ c.la := fun z => haO (z ▸ env.lO')
      refine q2 (.ref a :: vs) O' H' (a :: as) (f.trans f2) env2 (fun b hb => sub b (List.mem_cons_of_mem _ hb)) ((same_hideOld f env.sO' env.lO' ha).trans sm) (.ow hb (sub a List.mem_cons_self) hBa (fun z => haO (env.sub _ z)) (own.mono sm ?_) it) (List.nodup_cons.mpr ⟨fun z => no a z List.mem_cons_self, nd⟩) fun b hb => ?_
      · exact (f2 a o n1 n2' ho).trans ho.symm
      · rcases List.mem_cons.mp hb with z | z
        · subst z; exact haO
        · exact fun k => no b z (List.mem_cons_of_mem _ k)
/-- the names are stored, from the left -/
def setAll (σ : L2.St) : List Nat → List V → L2.St
  | i :: is, v :: vs => setAll (σ.set i (some v)) is vs
  | _, _ => σ
theorem itms_set {O : List Addr} {H : Hp} : ∀ {es : EL} {vs : List V} {ws : List W} {as : List Addr} {is : List Nat} {σ : L2.St} {r r' : Env}, Itms T c Oi O B H es vs ws as → parE is es ws r = some r' → EOk T c n Oi B O H σ r → as.Nodup →
    (∀ a ∈ as, ∀ (j : Nat) u, r[j]? = some (.ow u) → σ[j]? ≠ some (some (.ref a))) → EOk T c n Oi B O H (setAll σ is vs) r' ∧ vs.length = is.length
  | .nil, _, _, _, is, σ, r, r', .nil, hp, env, _, _ => by
    cases is with
    | nil => unfold parE at hp; cases hp; exact ⟨env, rfl⟩
    | cons _ _ => simp [parE] at hp
  | .cons e es, _, _, _, is, σ, r, r', it, hp, env, nd, un => by
    cases is with
    | nil => cases it <;> simp [parE] at hp
    | cons i is =>
      cases it with
      | sh hb rw1 it =>
        rename_i v vs w ws
        unfold parE at hp
        split at hp
        · rename_i r1 h1
          have h1 : (if i < r.length then some (r.set i (if (fresh e && isBox w) = true then .ow w else .sh w)) else none) = some r1 := h1
          rw [hb] at h1
          obtain ⟨hi, rfl⟩ := if_some h1
          have env1 := env.set hi rw1
          obtain ⟨g1, g2⟩ := itms_set it hp env1 nd fun a ha j u hj => by
            by_cases q : i = j
            · subst q
              rw [if_neg Bool.false_ne_true, List.getElem?_set_self hi] at hj
              cases hj
            · rw [List.getElem?_set_ne q] at hj ⊢
              exact un a ha j u hj
          exact ⟨g1, by rw [List.length_cons, List.length_cons, g2]⟩
        · cases hp
      | ow hb ha hB hO own it =>
        rename_i a vs w ws as
        unfold parE at hp
        split at hp
        · rename_i r1 h1
          have h1 : (if i < r.length then some (r.set i (if (fresh e && isBox w) = true then .ow w else .sh w)) else none) = some r1 := h1
          rw [hb] at h1
          obtain ⟨hi, rfl⟩ := if_some h1
          have env1 := env.setOw hi ha hB hO own fun j u hj => un a List.mem_cons_self j u hj
          obtain ⟨hna, nd⟩ := List.nodup_cons.mp nd
          obtain ⟨g1, g2⟩ := itms_set it hp env1 nd fun b hb j u hj => by
            by_cases q : i = j
            · subst q
              rw [List.getElem?_set_self (by rw [env.len]; exact hi)]
              intro z
              cases z
              exact hna hb
            · rw [if_pos rfl, List.getElem?_set_ne q] at hj
              rw [List.getElem?_set_ne q]
              exact un b (List.mem_cons_of_mem _ hb) j u hj
          exact ⟨g1, by rw [List.length_cons, List.length_cons, g2]⟩
        · cases hp

/-! ### statements -/
def FinS (T : Stc) (c : StA) (Oi : List Addr) (B : Hp) (O : List Addr) (H : Hp) (D : Ends) : Fl × Env → Nat → Prop := fun q n => ∀ O' H' σ', EOk T c n Oi B O' H' σ' q.2 → Same (hide O H) (hide O' H') → match q.1 with
  | .nx => D.nx σ' H'
  | .bk => D.bk σ' H'
  | .ct => D.ct σ' H'
  | .rt w => ∀ v, RW T.K T.fa c (hide O' H') v w → D.rt v H'
theorem FinS.step {D : Ends} {q : Fl × Env} (s : Same (hide O H) (hide O1 H1)) (h : FinS T c Oi B O H D q n) : FinS T c Oi B O1 H1 D q n := fun O' H' σ' env sm => h O' H' σ' env (s.trans sm)
def rdS (T : Stc) (Ex : XK) (fu : Nat) (s : S) : TS := fun D σ H => ∃ c N Oi B O r, EOk T c N Oi B O H σ r ∧ (evS T.fs T.gs fu s r).wp N (FinS T c Oi B O H D) (EX T Ex c Oi B)
def rdSL (T : Stc) (Ex : XK) (fu : Nat) (s : SL) : TS := fun D σ H => ∃ c N Oi B O r, EOk T c N Oi B O H σ r ∧ (evSL T.fs T.gs fu s r).wp N (FinS T c Oi B O H D) (EX T Ex c Oi B)
theorem PS.weak {st : Stmt} {t t' : TS} (h : PS X st t) (i : ∀ D σ H, t' D σ H → t D σ H) : PS X st t' := ⟨fun pins s σ H D I q => h.run pins s σ H D I (i D σ H q)⟩
theorem PSs.weak {st : List Stmt} {t t' : TS} (h : PSs X st t) (i : ∀ D σ H, t' D σ H → t D σ H) : PSs X st t' := ⟨fun pins s σ H D I q => h.run pins s σ H D I (i D σ H q)⟩
theorem PS.alt {st : Stmt} {t u : TS} (h : PS X st t) (k : PS X st u) : PS X st (fun D σ H => t D σ H ∨ u D σ H) := ⟨fun pins s σ H D I q => q.elim (h.run pins s σ H D I) (k.run pins s σ H D I)⟩
/-- an expression in a statement -/
theorem rdB1 {β : Type} {bw : Bool} {a : E} {f : W → M β} {Qf : β → Nat → Prop} {P : VK} (env : EOk T c N Oi B O H σ r) (h : ((evE T.fs T.gs r bw a).bind f).wp N Qf (EX T Ex c Oi B))
    (k : ∀ w n v H1, Fr c H H1 → EOk T c n Oi B O H1 σ r → RB T c O H1 bw v w → (f w).wp n Qf (EX T Ex c Oi B) → P v H1) : rdE T Ex bw a σ H P :=
  ⟨c, N, Oi, B, O, r, env, M.wp_mono (fun w n hq v H1 f1 s1 rb => k w n v H1 f1 (env.step f1 s1) rb hq) (fun x n h => h.wider env.fr env.sub) (M.wp_bind.mp h)⟩
theorem rdB1T {β : Type} {a : E} {f : Bool → M β} {Qf : β → Nat → Prop} {P : Bool → Hp → Prop} (env : EOk T c N Oi B O H σ r) (h : ((evE T.fs T.gs r false a).bind fun x => (opt (wBool x)).bind f).wp N Qf (EX T Ex c Oi B))
    (k : ∀ b n H1, Fr c H H1 → EOk T c n Oi B O H1 σ r → (f b).wp n Qf (EX T Ex c Oi B) → P b H1) : rdT T Ex a σ H P := by
  rw [← M.bind_assoc] at h
  exact ⟨c, N, Oi, B, O, r, env, M.wp_mono (fun b n hq H1 f1 s1 => k b n H1 f1 (env.step f1 s1) hq) (fun x n h => h.wider env.fr env.sub) (M.wp_bind.mp h)⟩
end
end DS

set_option Elab.async false
set_option linter.all false
set_option autoImplicit false
set_option maxRecDepth 100000
set_option maxHeartbeats 4000000
/-! DS19: how stores are ordered; the text of statements. -/
namespace DS
open PySem PySem.Spec PySem.SeqAt PyProof.Rows L2
def swNo (sc : Scope) (value : Expr) (tg : Option Expr) : Bool := match value with
  | .SetComp _ _ _ _ => false
  | .DictComp _ _ _ _ _ => false
  | .ListComp _ _ s p => match tg with
    | some (.Name t q) => !(sc.names.lookup t == some .local && q.line == p.line && !(s.names.any fun (n, k) => n == t && (k == .local || k == .cell)))
    | some _ => true
    | none => false
  | _ => true
theorem swNo_ok {env : PySem.Env} {value : Expr} {tg : Option Expr} {l : Nat} (hk : env.scope.kind = .function) (h : swNo env.scope value tg = true) : swapsWith value tg l env = pure false := by
  have hb : env.blockKind = .function := by unfold Env.blockKind; rw [hk]; rfl
  cases value <;> first
    | rfl
    | (simp [swNo] at h; done)
    | skip
  rename_i elt gs s p
  rcases tg with _ | t
  · simp [swNo] at h
  cases t <;> first
    | rfl
    | skip
  · rename_i x q
    unfold swNo at h
    simp only [Bool.not_eq_true'] at h
    unfold swapsWith
    simp only [hb, Expr.pos]
    show pure _ = pure _
    congr 1
def isTL : Expr → Bool
  | .Tuple _ _ _ => true
  | .List _ _ => true
  | _ => false
theorem sw_none {env : PySem.Env} {value tg : Expr} (h : (isTL tg && isTup value) = false) : swappedStores [tg] value env = pure none := by
  cases tg <;> cases value <;> first | rfl | (simp [isTL, isTup] at h)
/-- two, three plain local names from as many values -/
def locN (sc : Scope) (l : Nat) : Expr → Bool
  | .Name x p => sc.names.lookup x == some .local && p.line == l
  | _ => false
def sw2 (sc : Scope) (x y : Str) (px py : Pos) (a b : Expr) : Bool := sc.names.lookup x == some .local && sc.names.lookup y == some .local && py.line == px.line && !(x == y) && !(star a) && !(star b) && !(foldedForSure 8 a && foldedForSure 8 b) && !(constantsAlone 8 a && constantsAlone 8 b)
theorem sw2_ok {env : PySem.Env} {x y : Str} {px py pt pt2 : Pos} {kt k2 : Nat} {a b : Expr} (hk : env.scope.kind = .function) (h : sw2 env.scope x y px py a b = true) :
    swappedStores [.Tuple [.Name x px, .Name y py] kt pt] (.Tuple [a, b] k2 pt2) env = pure (some [x, y]) := by
  have hb : env.blockKind = .function := by unfold Env.blockKind; rw [hk]; rfl
  unfold sw2 at h
  simp only [Bool.and_eq_true, Bool.not_eq_true'] at h
  obtain ⟨⟨⟨⟨⟨⟨⟨h1, h2⟩, h3⟩, h4⟩, h5⟩, h6⟩, h7⟩, h8⟩ := h
  have h1 : (env.kindOf x == some .local) = true := h1
  have h2 : (env.kindOf y == some .local) = true := h2
  have h4' : (y == x) = false := by rw [beq_eq_false_iff_ne] at h4 ⊢; exact fun z => h4 z.symm
  have ep : ∀ (z : Str) (q : Pos), (Expr.Name z q).pos.line = q.line := fun _ _ => rfl
  have e1 : (env.kindOf x == some .local && px.line == (Expr.Name x px).pos.line) = true := by rw [h1]; show (true && px.line == px.line) = true; simp
  have e2 : (env.kindOf y == some .local && py.line == (Expr.Name x px).pos.line) = true := by rw [h2]; exact h3
  unfold swappedStores
  dsimp only [List.head?_cons, Option.map_some, Option.getD_some, ep, List.filterMap_cons, List.filterMap_nil]
  simp only [e1, e2, if_true]
  rw [if_neg (by rw [hb]; exact Bool.false_ne_true), if_neg (by
    intro z
    simp only [List.any_cons, List.any_nil, Bool.or_false, Bool.or_eq_true] at z
    rcases z with z | z
    · cases a <;> first | (exact absurd z Bool.false_ne_true) | (exact absurd h5.symm Bool.false_ne_true)
    · cases b <;> first | (exact absurd z Bool.false_ne_true) | (exact absurd h6.symm Bool.false_ne_true)), if_neg (by simp [List.eraseDups_cons, h4, h4']), if_neg (by simpa using h7), if_neg (by simpa using h8)]
def sw3 (sc : Scope) (x y z : Str) (px py pz : Pos) (a b c : Expr) : Bool := sc.names.lookup x == some .local && sc.names.lookup y == some .local && sc.names.lookup z == some .local && py.line == px.line && pz.line == px.line && !(x == y) && !(x == z) && !(y == z) &&
  !(star a) && !(star b) && !(star c) && !(foldedForSure 8 a && (foldedForSure 8 b && foldedForSure 8 c)) && !(constantsAlone 8 a && (constantsAlone 8 b && constantsAlone 8 c))
theorem sw3_ok {env : PySem.Env} {x y z : Str} {px py pz pt pt2 : Pos} {kt k2 : Nat} {a b c : Expr} (hk : env.scope.kind = .function) (h : sw3 env.scope x y z px py pz a b c = true) :
    swappedStores [.Tuple [.Name x px, .Name y py, .Name z pz] kt pt] (.Tuple [a, b, c] k2 pt2) env = pure (some [x, y, z]) := by
  have hb : env.blockKind = .function := by unfold Env.blockKind; rw [hk]; rfl
  unfold sw3 at h
  simp only [Bool.and_eq_true, Bool.not_eq_true'] at h
  obtain ⟨⟨⟨⟨⟨⟨⟨⟨⟨⟨⟨⟨h1, h2⟩, h3⟩, h4⟩, h5⟩, h6⟩, h7⟩, h8⟩, h9⟩, h10⟩, h11⟩, h12⟩, h13⟩ := h
  have h1 : (env.kindOf x == some .local) = true := h1
  have h2 : (env.kindOf y == some .local) = true := h2
  have h3 : (env.kindOf z == some .local) = true := h3
  have fl : ∀ {u v : Str}, (u == v) = false → (v == u) = false := fun {u v} h => by rw [beq_eq_false_iff_ne] at h ⊢; exact fun z => h z.symm
  have ep : ∀ (z : Str) (q : Pos), (Expr.Name z q).pos.line = q.line := fun _ _ => rfl
  have e1 : (env.kindOf x == some .local && px.line == (Expr.Name x px).pos.line) = true := by rw [h1]; show (true && px.line == px.line) = true; simp
  have e2 : (env.kindOf y == some .local && py.line == (Expr.Name x px).pos.line) = true := by rw [h2]; exact h4
  have e3 : (env.kindOf z == some .local && pz.line == (Expr.Name x px).pos.line) = true := by rw [h3]; exact h5
  unfold swappedStores
  dsimp only [List.head?_cons, Option.map_some, Option.getD_some, ep, List.filterMap_cons, List.filterMap_nil]
  simp only [e1, e2, e3, if_true]
  rw [if_neg (by rw [hb]; exact Bool.false_ne_true), if_neg (by
    intro z
    simp only [List.any_cons, List.any_nil, Bool.or_false, Bool.or_eq_true] at z
    rcases z with z | z | z
    · cases a <;> first | (exact absurd z Bool.false_ne_true) | (exact absurd h9.symm Bool.false_ne_true)
    · cases b <;> first | (exact absurd z Bool.false_ne_true) | (exact absurd h10.symm Bool.false_ne_true)
    · cases c <;> first | (exact absurd z Bool.false_ne_true) | (exact absurd h11.symm Bool.false_ne_true)), if_neg (by simp [List.eraseDups_cons, h6, h7, h8, fl h6, fl h7, fl h8]), if_neg (by simpa using h12), if_neg (by simpa using h13)]
/-- no exchange of stores -/
def swT (sc : Scope) (ts vs : List Expr) : Bool := decide (ts.length = vs.length) && (decide (3 < ts.length) || (vs.all (foldedForSure 8) && !(vs.any star)))
theorem swT_ok {env : PySem.Env} {ts vs : List Expr} {pt pt2 : Pos} {kt k2 : Nat} (h : swT env.scope ts vs = true) : swappedStores [.Tuple ts kt pt] (.Tuple vs k2 pt2) env = pure none := by
  unfold swT at h
  simp only [Bool.and_eq_true, Bool.or_eq_true, decide_eq_true_eq] at h
  obtain ⟨h1, h2⟩ := h
  unfold swappedStores
  dsimp only
  rcases h2 with h2 | h2
  · rw [if_pos]
    simp only [Bool.or_eq_true, Bool.not_eq_true', Bool.or_eq_false_iff, beq_eq_false_iff_ne]
    exact .inl (.inl ⟨by omega, by omega⟩)
  · split
    · rfl
    · split
      · rfl
      · split
        · rfl
        · rw [if_pos h2.1]
end DS

set_option Elab.async false
set_option linter.all false
set_option autoImplicit false
set_option maxRecDepth 100000
set_option maxHeartbeats 4000000
/-! DS20: statements. -/
namespace DS
open PySem PySem.Spec PySem.SeqAt PyProof.Rows L2

def lcB (sc : Scope) (ptg pe : Expr) : Bool := match ptg with
  | .Name y py => match pe with
    | .ListComp _ _ scope pos => decide (sc.names.lookup y = some .local) && (py.line == pos.line) && !(scope.names.any fun (n, k) => n == y && (k == .local || k == .cell))
    | _ => false
  | _ => false
def parTg : List Nat → TgL
  | [] => .nil
  | i :: is => .cons (.n i) (parTg is)
def swB (sc : Scope) (ts vs : List Expr) : Bool := match ts with
  | [.Name x px, .Name y py] => match vs with
    | [a, b] => sw2 sc x y px py a b
    | _ => false
  | [.Name x px, .Name y py, .Name z pz] => match vs with
    | [a, b, c] => sw3 sc x y z px py pz a b c
    | _ => false
  | _ => false
mutual
def chkS (ct : Ct) (sc : Scope) (F : Str → Bool) : S → Stmt → Bool
  | .asg tg e, st => match st with
    | .Assign [ptg] pe _ => chkE ct sc e pe && chkTg ct sc F tg ptg && !(isTL ptg && isTup pe) && (swNo sc pe (some ptg) || lcB sc ptg pe)
    | _ => false
  | .par is es, st => match st with
    | .Assign [.Tuple pts _ _] (.Tuple pvs _ _) _ => chkL ct sc es pvs && chkTgs ct sc F (parTg is) pts && decide (es.len ≤ 1000) && (swB sc pts pvs || swT sc pts pvs)
    | _ => false
  | .ret e, st => match st with
    | .Return (some pe) _ => chkE ct sc e pe
    | _ => false
  | .retN, st => match st with
    | .Return none _ => true
    | _ => false
  | .ite c a b, st => match st with
    | .If pc pa pb _ => chkE ct sc c pc && chkSL ct sc F a pa && chkSL ct sc F b pb
    | _ => false
  | .forr tg it body, st => match st with
    | .For ptg pit pb [] _ => chkTg ct sc F tg ptg && chkI ct sc it ptg pit && chkSL ct sc F body pb
    | _ => false
  | .whl c body, st => match st with
    | .While pc pb [] _ => chkE ct sc c pc && chkSL ct sc F body pb
    | _ => false
  | .app i e, st => match st with
    | .Expr (.Call (.Attribute (.Name x _) m apos) [pe] [] cpos) _ => nameB ct sc i x && decide (m = ("append" : Str)) && chkE ct sc e pe && (apos.endLine == cpos.line)
    | _ => false
  | .ext i e, st => match st with
    | .Expr (.Call (.Attribute (.Name x _) m apos) [pe] [] cpos) _ => nameB ct sc i x && decide (m = ("extend" : Str)) && chkE ct sc e pe && (apos.endLine == cpos.line)
    | _ => false
  | .popTo j i, st => match st with
    | .Assign [.Name y py] (.Call (.Attribute (.Name x _) m apos) [] [] cpos) _ => nameB ct sc i x && decide (m = ("pop" : Str)) && (apos.endLine == cpos.line) && chkTg ct sc F (.n j) (.Name y py)
    | _ => false
  | .put i k e, st => match st with
    | .Assign [.Subscript (.Name x _) pk _] pe _ => nameB ct sc i x && chkE ct sc k pk && chkE ct sc e pe && !(isSl pk)
    | _ => false
  | .ex e, st => match st with
    | .Expr pe _ => chkE ct sc e pe && swNo sc pe none
    | _ => false
  | .brk, st => match st with
    | .Break _ => true
    | _ => false
  | .cnt, st => match st with
    | .Continue _ => true
    | _ => false
  | .pas, st => match st with
    | .Pass _ => true
    | _ => false
  | .rse, st => match st with
    | .Raise _ _ _ => true
    | _ => false
def chkSL (ct : Ct) (sc : Scope) (F : Str → Bool) : SL → List Stmt → Bool
  | .nil, sts => match sts with
    | [] => true
    | _ => false
  | .cons s ss, sts => match sts with
    | st :: sts => chkS ct sc F s st && chkSL ct sc F ss sts
    | [] => false
end
/-- the text's place: a def's body -/
structure XSt (T : Stc) (N : List Str) (sc : Scope) (F : Str → Bool) (Ex : XK) (X : Cx) : Prop where
  xo : XOk T N sc F Ex X
  kind : sc.kind = .function
  po : PassesOwn (model X.prog X.w) X.A X.env X.xe
section
variable {T : Stc} {Ex : XK} {X : Cx} {kw : List (Nat × Nat × List Str × List Nat)} {Nm : List Str} {sc : Scope} {Fn : Str → Bool} {ct : Ct} {e : E} {es : EL} {p : Expr} {ps : List Expr} {c : StA} {O O1 Oi : List Addr} {H H1 B : Hp} {N n fu : Nat} {σ : L2.St} {r : Env} {D : Ends} {pos : Pos}
/-- name = e -/
theorem asg_key {i : Nat} (h : rdS T Ex fu (.asg (.n i) e) D σ H) : rdX T Ex e σ H fun x H1 => D.nx (σ.set i (some x)) H1 := by
  obtain ⟨c, N, Oi, B, O, r, env0, q⟩ := h
  unfold evS at q
  obtain ⟨O1, env, hs⟩ := env0.dem (escE false e)
  generalize dem r (escE false e) = r1 at q env
  have sm : Same (hide O H) (hide O1 H) := hide_sub hs
  refine ⟨c, N, Oi, B, O1, r1, env, M.wp_mono (fun w n q v H1 f s rx => ?_) (fun x n h => h.wider env.fr env.sub) (M.wp_bind.mp q)⟩
  obtain ⟨r2, hr, q⟩ := opt_wp (M.wp_bind.mp q)
  have q : FinS T c Oi B O H D (.nx, r2) n := q
  have hp : parE [i] (.cons e .nil) [w] r1 = some r2 := by unfold parE; rw [hr]; rfl
  obtain ⟨rw1, ow1⟩ := rx
  cases hb : (fresh e && isBox w) with
  | false =>
    have env1 := env.step f s
    obtain ⟨g, _⟩ := itms_set (.sh hb rw1 .nil) hp env1 List.nodup_nil (fun a ha => by simp at ha)
    exact q O1 H1 _ g (sm.trans (f.hide env.sO' env.lO'))
  | true =>
    obtain ⟨a, rfl, ha, own⟩ := ow1 hb
    have hta : ∃ o, H1 a = some o := by cases own <;> exact ⟨_, by assumption⟩
    obtain ⟨o, ho⟩ := hta
    have env1 := env.hideOld f s ha ho
    have haO : a ∉ O1 := env.fresh ha
    obtain ⟨g, _⟩ := itms_set (.ow hb List.mem_cons_self (fr_none env.fr env.st ha) (fun z => haO (env.sub _ z)) own .nil) hp env1 (by simp) (fun b hb j u hj hz => by
      have hb : b = a := by simpa using hb
      subst hb
      obtain ⟨b', h1, h2, _⟩ := env.ow j u hj
      rw [hz] at h1
      cases h1
      exact haO h2)
    exact q _ H1 _ g (sm.trans (same_hideOld f env.sO' env.lO' ha))
/-- several names at once -/
theorem par_key {is : List Nat} (h : rdS T Ex fu (.par is es) D σ H) : rdLo T Ex es σ H fun vs H1 => vs.length = is.length ∧ ∀ H2, Same H1 H2 → D.nx (setAll σ is vs) H2 := by
  obtain ⟨c, N, Oi, B, O, r, env0, q⟩ := h
  unfold evS at q
  obtain ⟨O1, env, hs⟩ := env0.dem (escL es)
  generalize dem r (escL es) = r1 at q env
  have sm : Same (hide O H) (hide O1 H) := hide_sub hs
  refine ⟨c, N, Oi, B, O1, r1, env, M.wp_mono (fun ws n q vs O' H1 as f env1 sub sm1 it nd no => ?_) (fun x n h => h.wider env.fr env.sub) (M.wp_bind.mp q)⟩
  obtain ⟨r2, hr, q⟩ := opt_wp (M.wp_bind.mp q)
  have q : FinS T c Oi B O H D (.nx, r2) n := q
  obtain ⟨g, hl⟩ := itms_set it hr env1 nd (fun b hb j u hj hz => by
    obtain ⟨b', h1, h2, _⟩ := env.ow j u hj
    rw [hz] at h1
    cases h1
    exact no _ hb h2)
  exact ⟨hl, fun H2 s2 => q O' H2 _ (g.step (.of s2) (g.st.same s2)) ((sm.trans sm1).trans (hide_same s2))⟩
theorem asgT_key {ts : TgL} (h : rdS T Ex fu (.asg (.t ts) e) D σ H) : rdE T Ex false e σ H fun x H1 => rdG T (.t ts) x σ H1 D.nx := by
  obtain ⟨c, N, Oi, B, O, r, env0, q⟩ := h
  unfold evS at q
  obtain ⟨O1, env, hs⟩ := env0.dem (escE false e)
  generalize dem r (escE false e) = r1 at q env
  have sm : Same (hide O H) (hide O1 H) := hide_sub hs
  refine rdB1 env q fun w n v H1 f env1 rb q => ?_
  obtain ⟨r2, hr, q⟩ := opt_wp (M.wp_bind.mp q)
  have q : FinS T c Oi B O H D (.nx, r2) n := q
  exact ⟨c, n, Oi, B, O1, r1, w, r2, env1, rb.plain, hr, fun σ' env2 _ => q O1 H1 σ' env2 (sm.trans (f.hide env.sO' env.lO'))⟩
theorem ret_key (h : rdS T Ex fu (.ret e) D σ H) : rdE T Ex false e σ H D.rt := by
  obtain ⟨c, N, Oi, B, O, r, env0, q⟩ := h
  unfold evS at q
  obtain ⟨O1, env, hs⟩ := env0.dem (escE false e)
  generalize dem r (escE false e) = r1 at q env
  have sm : Same (hide O H) (hide O1 H) := hide_sub hs
  refine rdB1 env q fun w n v H1 f env1 rb q => ?_
  have q : FinS T c Oi B O H D (.rt w, r1) n := q
  exact q O1 H1 σ env1 (sm.trans (f.hide env.sO' env.lO')) v rb.plain
theorem ex_key (h : rdS T Ex fu (.ex e) D σ H) : rdE T Ex false e σ H fun _ H1 => D.nx σ H1 := by
  obtain ⟨c, N, Oi, B, O, r, env0, q⟩ := h
  unfold evS at q
  obtain ⟨O1, env, hs⟩ := env0.dem (escE false e)
  generalize dem r (escE false e) = r1 at q env
  have sm : Same (hide O H) (hide O1 H) := hide_sub hs
  refine rdB1 env q fun w n v H1 f env1 rb q => ?_
  have q : FinS T c Oi B O H D (.nx, r1) n := q
  exact q O1 H1 σ env1 (sm.trans (f.hide env.sO' env.lO'))
theorem ite_key {a b : SL} (h : rdS T Ex fu (.ite e a b) D σ H) : tIfS (rdT T Ex e) (rdSL T Ex fu a) (rdSL T Ex fu b) D σ H := by
  obtain ⟨c, N, Oi, B, O, r, env0, q⟩ := h
  unfold evS at q
  obtain ⟨O1, env, hs⟩ := env0.dem (escE false e)
  generalize dem r (escE false e) = r1 at q env
  have sm : Same (hide O H) (hide O1 H) := hide_sub hs
  refine rdB1T env q fun k n H1 f env1 q => ?_
  have st : Same (hide O H) (hide O1 H1) := sm.trans (f.hide env.sO' env.lO')
  cases k with
  | true =>
    rw [if_pos rfl] at q ⊢
    exact ⟨c, n, Oi, B, O1, r1, env1, M.wp_mono (fun q n h => h.step st) (fun _ _ x => x) q⟩
  | false =>
    rw [if_neg Bool.false_ne_true] at q ⊢
    exact ⟨c, n, Oi, B, O1, r1, env1, M.wp_mono (fun q n h => h.step st) (fun _ _ x => x) q⟩
theorem forM_cons {ρ : Type} {step : W → ρ → M (Fl × ρ)} {w : W} {ws : List W} {r : ρ} : forM step (w :: ws) r = (step w r).bind fun q => match q.1 with
    | .nx => forM step ws q.2
    | .ct => forM step ws q.2
    | .bk => .ret (.nx, q.2)
    | .rt v => .ret (.rt v, q.2) := rfl
theorem for_key {tg : Tg} {it : It} {body : SL} (h : rdS T Ex fu (.forr tg it body) D σ H) : tFor (rdI T Ex it) (rdG T tg) (rdSL T Ex fu body) D σ H := by
  obtain ⟨c, N, Oi, B, O, r, env0, q⟩ := h
  unfold evS at q
  obtain ⟨O1, env, hs⟩ := env0.dem (escI it)
  generalize dem r (escI it) = r1 at q env
  have sm : Same (hide O H) (hide O1 H) := hide_sub hs
  generalize hst : (fun w r1 => (opt (asgT tg w r1)).bind fun r2 => evSL T.fs T.gs fu body r2) = step at q
  refine ⟨c, N, Oi, B, O1, r1, env, M.wp_mono (fun ws n q J H1 f s j => ?_) (fun x n h => h.wider env.fr env.sub) (M.wp_bind.mp q)⟩
  have env1 := env.step f s
  have sm1 : Same (hide O H) (hide O1 H1) := sm.trans (f.hide env.sO' env.lO')
  refine ⟨fun i m σ2 H2 => ∃ N2 O2 r2, i ≤ ws.length ∧ m = ws.length - i ∧ EOk T c N2 Oi B O2 H2 σ2 r2 ∧ Same (hide O1 H1) (hide O2 H2) ∧ (forM step (ws.drop i) r2).wp N2 (FinS T c Oi B O H D) (EX T Ex c Oi B),
    ⟨ws.length, n, O1, r1, Nat.zero_le _, rfl, env1, Same.refl _, by rw [List.drop_zero]; exact q⟩, fun i m σ2 H2 ⟨N2, O2, r2, hi, hm, env2, s2, q2⟩ => ?_⟩
  by_cases hlt : i < ws.length
  · refine .inr ⟨j.go i O2 H2 s2 hlt, _, fun σ' H' h => h, fun x H3 hy => ?_⟩
    obtain ⟨w, hw, s3, rw3⟩ := j.yl i O2 H2 x H3 hlt s2 env2.trk hy
    have env3 := env2.step (.of s3) (env2.st.same s3)
    have hdrop : ws.drop i = w :: ws.drop (i + 1) := by
      rw [List.drop_eq_getElem_cons hlt]
      congr 1
      exact Option.some.inj ((List.getElem?_eq_getElem hlt).symm.trans hw)
    rw [hdrop, forM_cons] at q2
    have q2 := M.wp_bind.mp q2
    rw [← hst] at q2
    obtain ⟨r3, hr, q3⟩ := opt_wp (M.wp_bind.mp q2)
    rw [hst] at q3
    have s23 : Same (hide O1 H1) (hide O2 H3) := s2.trans (hide_same s3)
    refine ⟨c, N2, Oi, B, O2, r2, w, r3, env3, rw3, hr, fun σ3 env4 _ => ⟨c, N2, Oi, B, O2, r3, env4, M.wp_mono (fun qq n4 q4 => ?_) (fun _ _ x => x) q3⟩⟩
    obtain ⟨fl, r5⟩ := qq
    intro O5 H5 σ5 env5 s5
    have s15 : Same (hide O1 H1) (hide O5 H5) := s23.trans s5
    cases fl with
    | nx => exact ⟨ws.length - (i + 1), by omega, n4, O5, r5, hlt, rfl, env5, s15, q4⟩
    | ct => exact ⟨ws.length - (i + 1), by omega, n4, O5, r5, hlt, rfl, env5, s15, q4⟩
    | bk =>
      have q4 : FinS T c Oi B O H D (.nx, r5) n4 := q4
      exact q4 O5 H5 σ5 env5 (sm1.trans s15)
    | rt v =>
      have q4 : FinS T c Oi B O H D (.rt v, r5) n4 := q4
      exact q4 O5 H5 σ5 env5 (sm1.trans s15)
  · have hi' : ws.length = i := by omega
    refine .inl ⟨j.st i O2 H2 s2 hi', ?_⟩
    rw [← hi', List.drop_length] at q2
    have q2 : FinS T c Oi B O H D (.nx, r2) N2 := q2
    exact q2 O2 H2 σ2 env2 (sm1.trans s2)
theorem whl_key {body : SL} (h : rdS T Ex fu (.whl e body) D σ H) : tWhile (rdT T Ex e) (rdSL T Ex fu body) D σ H := by
  obtain ⟨c, N, Oi, B, O, r, env, q⟩ := h
  unfold evS at q
  refine ⟨fun m σ2 H2 => ∃ N2 O2 r2, EOk T c N2 Oi B O2 H2 σ2 r2 ∧ Same (hide O H) (hide O2 H2) ∧
    (whileM (fun r1 => if (escE false e).all (fun i => (ownAt r1 i).isNone) = true then (evE T.fs T.gs r1 false e).bind (fun x => opt (wBool x)) else .stuck) (fun r1 => evSL T.fs T.gs fu body r1) m r2).wp N2 (FinS T c Oi B O H D) (EX T Ex c Oi B),
    ⟨fu, N, O, r, env, Same.refl _, q⟩, fun m σ2 H2 ⟨N2, O2, r2, env2, s2, q2⟩ => ?_⟩
  cases m with
  | zero => exact q2.elim
  | succ m =>
    unfold whileM at q2
    have q2 := M.wp_bind.mp q2
    split at q2
    · refine ⟨c, N2, Oi, B, O2, r2, env2, M.wp_mono (fun b n3 q3 H3 f3 st3 => ?_) (fun x n h => h.wider env2.fr env2.sub) q2⟩
      have env3 := env2.step f3 st3
      have s3 : Same (hide O H) (hide O2 H3) := s2.trans (f3.hide env2.sO' env2.lO')
      cases b with
      | false =>
        rw [if_neg Bool.false_ne_true] at q3
        dsimp only
        rw [if_neg Bool.false_ne_true]
        have q3 : FinS T c Oi B O H D (.nx, r2) n3 := q3
        exact q3 O2 H3 σ2 env3 s3
      | true =>
        rw [if_pos rfl] at q3
        dsimp only
        rw [if_pos rfl]
        refine ⟨_, fun σ' H' h => h, c, n3, Oi, B, O2, r2, env3, M.wp_mono (fun qq n4 q4 => ?_) (fun _ _ x => x) (M.wp_bind.mp q3)⟩
        obtain ⟨fl, r5⟩ := qq
        intro O5 H5 σ5 env5 s5
        have s15 : Same (hide O H) (hide O5 H5) := s3.trans s5
        cases fl with
        | nx => exact ⟨m, by omega, n4, O5, r5, env5, s15, q4⟩
        | ct => exact ⟨m, by omega, n4, O5, r5, env5, s15, q4⟩
        | bk =>
          have q4 : FinS T c Oi B O H D (.nx, r5) n4 := q4
          exact q4 O5 H5 σ5 env5 s15
        | rt v =>
          have q4 : FinS T c Oi B O H D (.rt v, r5) n4 := q4
          exact q4 O5 H5 σ5 env5 s15
    · exact q2.elim
end
end DS

set_option Elab.async false
set_option linter.all false
set_option autoImplicit false
set_option maxRecDepth 100000
set_option maxHeartbeats 4000000
/-! DS21: all statements. -/
namespace DS
open PySem PySem.Spec PySem.SeqAt PyProof.Rows L2
section
variable {T : Stc} {Ex : XK} {X : Cx} {kw : List (Nat × Nat × List Str × List Nat)} {Nm : List Str} {sc : Scope} {Fn : Str → Bool} {ct : Ct} {e : E} {es : EL} {p : Expr} {ps : List Expr} {c : StA} {O O1 Oi : List Addr} {H H1 B : Hp} {N n fu i : Nat} {σ : L2.St} {r : Env} {D : Ends} {pos : Pos} {w : W}
theorem ownAt_some (h : ownAt r i = some w) : r[i]? = some (.ow w) := by
  unfold ownAt at h
  split at h
  · cases h; assumption
  · cases h
theorem ownL_some {ds : List PyData} (h : ownL r i = some ds) : r[i]? = some (.ow (.d (.list ds))) := by
  unfold ownL at h
  split at h
  · cases h; assumption
  · cases h
theorem own_list {ds : List PyData} {a : Addr} {G : Hp} (o : Own T.K T.fa c G H a (.d (.list ds))) : ∃ xs, H a = some (.lst xs) ∧ RDs T.K G xs ds := by
  cases o with | lst h1 h2 => exact ⟨_, h1, h2⟩
/-- an own list in hand -/
theorem own_get {ds : List PyData} (env : EOk T c n Oi B O H σ r) (h : r[i]? = some (.ow (.d (.list ds)))) : ∃ a xs, σ[i]? = some (some (.ref a)) ∧ a ∈ O ∧ H a = some (.lst xs) ∧ RDs T.K (hide O H) xs ds := by
  obtain ⟨a, g1, g2, g3, g4, g5⟩ := env.ow i _ h
  obtain ⟨xs, h1, h2⟩ := own_list g5
  exact ⟨a, xs, g1, g2, h1, h2⟩
theorem upd_nx {a : Addr} {w w2 : W} {o : HO} (env : EOk T c n Oi B O H1 σ r) (hr : r[i]? = some (.ow w)) (hs : σ[i]? = some (some (.ref a))) (ha : a ∈ O) (hw : Own T.K T.fa c (hide O H1) (upd H1 a o) a w2) (sm : Same (hide O1 H) (hide O H1))
    (q : FinS T c Oi B O1 H D (.nx, r.set i (.ow w2)) n) : D.nx σ (upd H1 a o) :=
  q O _ σ (env.updOwn hr hs hw) (by rw [hide_upd ha]; exact sm)
/-- name.append(e), name.extend(e) -/
theorem app_key (h : rdS T Ex fu (.app i e) D σ H) : tDrop (tBM X.K "list" rAppend (tVar i) (tCons (rdE T Ex false e) tNil)) D σ H := by
  obtain ⟨c, N, Oi, B, O, r, env0, q⟩ := h
  unfold evS at q
  obtain ⟨O1, env, hs⟩ := env0.dem (escE false e)
  generalize dem r (escE false e) = r1 at q env
  have sm : Same (hide O H) (hide O1 H) := hide_sub hs
  split at q
  · rename_i ds hw
    have hr := ownL_some hw
    obtain ⟨a, xs, g1, g2, g3, g4⟩ := own_get env hr
    refine ⟨.ref a, g1, .inl ⟨rfl, xs, .inl (.inl g3)⟩, ?_⟩
    refine rdB1 env q fun x n v H1 f env1 rb q => ?_
    obtain ⟨w2, hw2, q⟩ := opt_wp (M.wp_bind.mp q)
    have q : FinS T c Oi B O H D (.nx, r1.set i (.ow w2)) n := q
    obtain ⟨a', ys, k1, k2, k3, k4⟩ := own_get env1 hr
    rw [g1] at k1
    cases k1
    unfold appD at hw2
    split at hw2
    · obtain ⟨hl, rfl⟩ := if_some hw2
      refine ⟨a, ys, v, rfl, rfl, k3, by rw [k4.len]; exact Nat.lt_of_lt_of_le hl cap_le, ?_⟩
      exact upd_nx env1 hr g1 k2 (.lst upd_same (k4.append (.cons rb.plain.data .nil))) (sm.trans (f.hide env.sO' env.lO')) q
    · cases hw2
  · exact q.elim
theorem ext_key (h : rdS T Ex fu (.ext i e) D σ H) : tDrop (tBM X.K "list" rExtend (tVar i) (tCons (rdE T Ex false e) tNil)) D σ H := by
  obtain ⟨c, N, Oi, B, O, r, env0, q⟩ := h
  unfold evS at q
  obtain ⟨O1, env, hs⟩ := env0.dem (escE false e)
  generalize dem r (escE false e) = r1 at q env
  have sm : Same (hide O H) (hide O1 H) := hide_sub hs
  split at q
  · rename_i ds hw
    have hr := ownL_some hw
    obtain ⟨a, xs, g1, g2, g3, g4⟩ := own_get env hr
    refine ⟨.ref a, g1, .inl ⟨rfl, xs, .inl (.inl g3)⟩, ?_⟩
    refine rdB1 env q fun x n v H1 f env1 rb q => ?_
    obtain ⟨w2, hw2, q⟩ := opt_wp (M.wp_bind.mp q)
    have q : FinS T c Oi B O H D (.nx, r1.set i (.ow w2)) n := q
    obtain ⟨a', ys, k1, k2, k3, k4⟩ := own_get env1 hr
    rw [g1] at k1
    cases k1
    unfold extD at hw2
    split at hw2
    · obtain ⟨hl, rfl⟩ := if_some hw2
      obtain ⟨b, zs, rfl, m1, m2⟩ := rw_lst rb.plain
      refine ⟨a, b, ys, zs, rfl, rfl, k3, hide_le _ _ m1, by rw [k4.len, m2.len]; exact Nat.le_trans hl cap_le, ?_⟩
      exact upd_nx env1 hr g1 k2 (.lst upd_same (k4.append m2)) (sm.trans (f.hide env.sO' env.lO')) q
    · cases hw2
  · exact q.elim
theorem RDs.last {K : Frag} {G : Hp} {xs : List V} {ds : List PyData} {x : PyData} (h : RDs K G xs ds) (e : ds.getLast? = some x) : ∃ y, xs[xs.length - 1]? = some y ∧ RD K G y x := by
  rw [List.getLast?_eq_getElem?] at e
  rw [h.len]
  exact h.get e
theorem RDs.dropLast {K : Frag} {G : Hp} {xs : List V} {ds : List PyData} (h : RDs K G xs ds) : RDs K G xs.dropLast ds.dropLast := by
  rw [List.dropLast_eq_take, List.dropLast_eq_take, h.len]
  exact h.take _
theorem pop_key {j : Nat} (h : rdS T Ex fu (.popTo j i) D σ H) : tAsg (tBM0 X.K "list" rPop (tVar i)) (gName j) D σ H := by
  obtain ⟨c, N, Oi, B, O, r, env, q⟩ := h
  unfold evS at q
  split at q
  · rename_i ds hw
    have hr := ownL_some hw
    obtain ⟨a, xs, g1, g2, g3, g4⟩ := own_get env hr
    split at q
    · rename_i x hx
      split at q
      · rename_i hj
        have q : FinS T c Oi B O H D (.nx, (r.set i (.ow (.d (.list ds.dropLast)))).set j (.sh (.d x))) N := q
        obtain ⟨y, hy, ry⟩ := g4.last hx
        refine ⟨.ref a, g1, .inl ⟨rfl, xs, .inl (.inl g3)⟩, a, xs, y, rfl, rfl, g3, hy, ?_⟩
        have env1 := env.updOwn hr g1 (w' := .d (.list ds.dropLast)) (o := .lst xs.dropLast) (.lst upd_same g4.dropLast)
        have env2 := env1.set (i := j) (v := y) (w := .d x) (by rw [List.length_set]; exact hj) (.d (by rw [hide_upd g2]; exact ry))
        exact q O _ _ env2 (by rw [hide_upd g2]; exact Same.refl _)
      · exact q.elim
    · exact q.elim
  · exact q.elim
/-- name[k] = e -/
theorem RK.put {K : Frag} {fa : Nat → Addr} {G : Hp} {k : Key} {v : V} {w : W} (hv : RW K fa c G v w) {kvs : List (Key × V)} {ws : List (Key × W)} (h : RK K fa c G kvs ws) : RK K fa c G (putK kvs k v) (putV k w ws) := by
  have hany : ∀ {kvs : List (Key × V)} {ws : List (Key × W)}, RK K fa c G kvs ws → (kvs.any fun kv => decide (kv.1 = k)) = (ws.any fun p => decide (p.1 = k)) := by
    intro kvs ws h
    induction kvs generalizing ws with
    | nil => cases h; rfl
    | cons p kvs ih => cases h with
      | cons a t => rw [List.any_cons, List.any_cons, ih t]
  have hmap : ∀ {kvs : List (Key × V)} {ws : List (Key × W)}, RK K fa c G kvs ws → RK K fa c G (kvs.map fun kv => if kv.1 = k then (kv.1, v) else kv) (ws.map fun p => if p.1 = k then (p.1, w) else p) := by
    intro kvs ws h
    induction kvs generalizing ws with
    | nil => cases h; exact .nil
    | cons p kvs ih => cases h with
      | cons a t =>
        rename_i k' v' w' s
        rw [List.map_cons, List.map_cons]
        by_cases q : k' = k
        · rw [if_pos (show (k', v').1 = k from q), if_pos (show (k', w').1 = k from q)]
          exact .cons hv (ih t)
        · rw [if_neg (show ¬ (k', v').1 = k from q), if_neg (show ¬ (k', w').1 = k from q)]
          exact .cons a (ih t)
  have happ : ∀ {kvs : List (Key × V)} {ws : List (Key × W)}, RK K fa c G kvs ws → RK K fa c G (kvs ++ [(k, v)]) (ws ++ [(k, w)]) := by
    intro kvs ws h
    induction kvs generalizing ws with
    | nil => cases h; exact .cons hv .nil
    | cons p kvs ih => cases h with
      | cons a t => exact .cons a (ih t)
  unfold putK putV
  rw [hany h]
  split
  · exact hmap h
  · exact happ h
theorem put_key {k : E} (h : rdS T Ex fu (.put i k e) D σ H) : tAsg (rdE T Ex false e) (gSub (tVar i) (rdE T Ex false k) rSetL) D σ H ∨ sDPut (tVar i) (rdE T Ex false k) (rdE T Ex false e) D σ H := by
  obtain ⟨c, N, Oi, B, O, r, env0, q⟩ := h
  unfold evS at q
  obtain ⟨O1, env, hs⟩ := env0.dem (escE false k ++ escE false e)
  generalize dem r (escE false k ++ escE false e) = r1 at q env
  have sm : Same (hide O H) (hide O1 H) := hide_sub hs
  by_cases hcase : ∃ ds, r1[i]? = some (.ow (.d (.list ds)))
  · refine .inl ?_
    obtain ⟨ds, hr⟩ := hcase
    refine rdB1 env q fun x n v H1 f env1 rb q => ?_
    have hoa : ownAt r1 i = some (.d (.list ds)) := by unfold ownAt; rw [hr]
    rw [hoa] at q
    obtain ⟨a, xs, g1, g2, g3, g4⟩ := own_get env1 hr
    refine ⟨.ref a, g1, ?_⟩
    refine rdB1 env1 q fun y n2 v2 H2 f2 env2 rb2 q => ?_
    obtain ⟨w2, hw2, q⟩ := opt_wp (M.wp_bind.mp q)
    have q : FinS T c Oi B O H D (.nx, r1.set i (.ow w2)) n2 := q
    obtain ⟨a', ys, k1, k2, k3, k4⟩ := own_get env2 hr
    rw [g1] at k1
    cases k1
    have rb1 := rb.step f2 env1.sO' env1.lO' env1.trk
    unfold putW at hw2
    dsimp only at hw2
    split at hw2
    · rename_i kk yy hyy
      split at hw2
      · rename_i j hj
        cases hw2
        refine ⟨a, ys, kk, j, rfl, rb2.int, k3, by rw [k4.len]; exact hj, ?_⟩
        exact upd_nx env2 hr g1 k2 (.lst upd_same (k4.set rb1.plain.data j)) ((sm.trans (f.hide env.sO' env.lO')).trans (f2.hide env.sO' env.lO')) q
      · cases hw2
    · cases hw2
  · refine .inr ?_
    refine rdB1 env q fun x n v H1 f env1 rb q => ?_
    split at q
    · rename_i w hw
      have hr := ownAt_some hw
      obtain ⟨a, g1, g2, g3, g4, g5⟩ := env1.ow i w hr
      refine ⟨.ref a, g1, ?_⟩
      refine rdB1 env1 q fun y n2 v2 H2 f2 env2 rb2 q => ?_
      obtain ⟨w2, hw2, q⟩ := opt_wp (M.wp_bind.mp q)
      have q : FinS T c Oi B O H D (.nx, r1.set i (.ow w2)) n2 := q
      have rb1 := rb.step f2 env1.sO' env1.lO' env1.trk
      obtain ⟨a', k1, k2, k3, k4, k5⟩ := env2.ow i w hr
      rw [g1] at k1
      cases k1
      unfold putW at hw2
      split at hw2
      · exact absurd ⟨_, hr⟩ hcase
      · rename_i kvs
        split at hw2
        · rename_i key hkey
          obtain ⟨hl, rfl⟩ := if_some hw2
          cases k5 with
          | dK m1 m2 =>
            refine ⟨a, _, rfl, ?_, upd_nx env2 hr g1 k2 (.dK upd_same (m2.put (k := key) rb1.plain)) ((sm.trans (f.hide env.sO' env.lO')).trans (f2.hide env.sO' env.lO')) q⟩
            rw [keyW_rel hkey rb2]
            exact DPut.k m1 (by rw [m2.len]; exact Nat.lt_of_lt_of_le hl cap_le)
        · cases hw2
      · cases hw2
    · exact q.elim
end
end DS

set_option Elab.async false
set_option linter.all false
set_option autoImplicit false
set_option maxRecDepth 100000
set_option maxHeartbeats 8000000
/-! DS22: every statement that is checked is what the small language says. -/
namespace DS
open PySem PySem.Spec PySem.SeqAt PyProof.Rows L2
section
variable {T : Stc} {ct : Ct} {sc : Scope} {Fn : Str → Bool} {Ex : XK} {X : Cx}
theorem sLo (tk : TOk T ct.kw) (hf : ct.fn = T.fn) (hgn : ct.gn = T.gn) (xo : XOk T ct.N sc Fn Ex X) : ∀ (es : EL) (ps : List Expr), chkL ct sc es ps = true → PA X ps (rdLo T Ex es)
  | .nil, ps, h => by
    unfold chkL at h
    split at h
    · exact lo_nil
    · cases h
  | .cons e es, ps, h => by
    unfold chkL at h
    split at h
    · simp only [Bool.and_eq_true] at h
      exact lo_cons (sX tk hf hgn e sc Fn Ex X _ xo h.1) (sLo tk hf hgn xo es _ h.2) (chk_star h.1)
    · cases h
theorem Itms.len {c : StA} {Oi O : List Addr} {B H : Hp} {es : EL} {vs : List V} {ws : List W} {as : List Addr} (h : Itms T c Oi O B H es vs ws as) : vs.length = ws.length := by
  induction h with
  | nil => rfl
  | sh _ _ _ ih => exact congrArg (· + 1) ih
  | ow _ _ _ _ _ _ ih => exact congrArg (· + 1) ih
/-- one name -/
theorem s_tg1 (xo : XOk T ct.N sc Fn Ex X) {i : Nat} {pe : Expr} (h : chkTg ct sc Fn (.n i) pe = true) : PG X pe (gName i) := by
  unfold chkTg at h
  split at h
  · rename_i x p
    simp only [Bool.and_eq_true, decide_eq_true_eq] at h
    obtain ⟨h3, h4⟩ := locB_ok h.2
    exact pg_name (by rw [xo.hN]; exact xo.nd) (by rw [xo.hN]; exact h.1) (by rw [xo.hsc]; exact h3) (by rw [xo.hfn, xo.hsc]; exact h4)
  · cases h
/-- plain names one after another -/
theorem n_tgs (xo : XOk T ct.N sc Fn Ex X) : ∀ (is : List Nat) (ps : List Expr), chkTgs ct sc Fn (parTg is) ps = true → PGs X ps (fun vs σ H Q => vs.length = is.length ∧ Q (setAll σ is vs) H)
  | [], ps, h => by
    cases ps with
    | cons _ _ => simp [parTg, chkTgs] at h
    | nil =>
      refine PGs.weak pgs_nil fun vs σ H Q ⟨hl, q⟩ => ?_
      cases vs with
      | nil => exact ⟨rfl, q⟩
      | cons _ _ => cases hl
  | i :: is, ps, h => by
    cases ps with
    | nil => simp [parTg, chkTgs] at h
    | cons p ps =>
      unfold parTg chkTgs at h
      simp only [Bool.and_eq_true] at h
      have h1 := h.1
      unfold chkTg at h1
      split at h1
      · rename_i x pp
        simp only [Bool.and_eq_true, decide_eq_true_eq] at h1
        obtain ⟨h3, h4⟩ := locB_ok h1.2
        refine PGs.weak (pgs_cons (pg_name (by rw [xo.hN]; exact xo.nd) (by rw [xo.hN]; exact h1.1) (by rw [xo.hsc]; exact h3) (by rw [xo.hfn, xo.hsc]; exact h4)) (n_tgs xo is ps h.2) rfl) fun vs σ H Q ⟨hl, q⟩ => ?_
        cases vs with
        | nil => cases hl
        | cons v vs => exact ⟨v, vs, rfl, by simpa using hl, q⟩
      · cases h1
theorem as_len2 {ts : List Expr} {is : List Nat} (h : chkTgs ct sc Fn (parTg is) ts = true) : ts.length = is.length := by
  induction is generalizing ts with
  | nil => cases ts with
    | nil => rfl
    | cons _ _ => simp [parTg, chkTgs] at h
  | cons i is ih => cases ts with
    | nil => simp [parTg, chkTgs] at h
    | cons t ts =>
      unfold parTg chkTgs at h
      simp only [Bool.and_eq_true] at h
      rw [List.length_cons, List.length_cons, ih h.2]
theorem st_few {pe : Expr} {cpos : Pos} {env : PySem.Env} (hs : star pe = false) : ((backTo cpos (starEach [pe] env)).all (fun x => !x.1) && (backToKw cpos (keywordEach [] env)).all (fun x => x.1.isSome)
      && decide ([pe].length + ([] : List Keyword).length + (if ([] : List Keyword).isEmpty then 0 else 1) < 30)) = true := by
  rw [star_each hs]; rfl
mutual
theorem sS (tk : TOk T ct.kw) (hf : ct.fn = T.fn) (hgn : ct.gn = T.gn) (fu : Nat) (xs : XSt T ct.N sc Fn Ex X) : ∀ (s : S) (st : Stmt), chkS ct sc Fn s st = true → PS X st (rdS T Ex fu s)
  | .asg tg e, st, h => by
    unfold chkS at h
    split at h
    · rename_i ptg pe pos
      simp only [Bool.and_eq_true, Bool.or_eq_true, Bool.not_eq_true'] at h
      obtain ⟨⟨⟨h1, h2⟩, h3⟩, h4⟩ := h
      have hk : X.env.scope.kind = .function := by rw [xs.xo.hsc]; exact xs.kind
      cases tg with
      | n i =>
        rcases h4 with h4 | h4
        · refine PS.weak (ps_asg (sX tk hf hgn e sc Fn Ex X pe xs.xo h1) (s_tg1 xs.xo h2) (swNo_ok hk (by rw [xs.xo.hsc]; exact h4)) (sw_none h3) (by rw [as_star (chkTg_star h2)]; rfl)) fun D σ H q => asg_key q
        · unfold chkTg at h2
          split at h2
          · rename_i x px
            simp only [Bool.and_eq_true, decide_eq_true_eq] at h2
            unfold lcB at h4
            dsimp only at h4
            split at h4
            · rename_i pelt gens scope p2
              simp only [Bool.and_eq_true, decide_eq_true_eq, Bool.not_eq_true'] at h4
              cases e with
              | comp tg it cs elt =>
                unfold chkE at h1
                split at h1
                · rename_i heq
                  cases heq
                  simp only [Bool.and_eq_true, decide_eq_true_eq] at h1
                  obtain ⟨⟨⟨⟨⟨⟨g1, g2⟩, g3⟩, g4⟩, g5⟩, g6⟩, g7⟩ := h1
                  subst g1
                  refine PS.weak (st_setLc xs.xo h2.1 h4.1.1 xs.kind h4.1.2 h4.2 (sI tk hf hgn it sc Fn Ex X _ _ xs.xo g2) (chkI_set g2) g7 g3 (fun X' xo' => compC tk hf hgn g4 g5 X' xo') fun X' xo' => sE tk hf hgn elt _ _ _ X' _ xo' g6) fun D σ H q => ?_
                  obtain ⟨c, N, Oi, B, O, r, env, q⟩ := asg_key q
                  exact ⟨c, N, Oi, B, O, r, env, M.wp_mono (fun w n k v H' f s rf => k v H' f s ⟨rf.1, fun z => rf.2 (by simp only [Bool.and_eq_true] at z; exact z.2)⟩) (fun _ _ x => x) q⟩
                · cases h1
              | _ => simp [chkE] at h1
            · cases h4
          · cases h2
      | t ts =>
        have h4 : swNo sc pe (some ptg) = true := by
          rcases h4 with h4 | h4
          · exact h4
          · cases ptg <;> simp [chkTg, lcB] at h2 h4
        exact PS.weak (ps_asg (sE tk hf hgn e sc Fn Ex X pe xs.xo h1).pf (s_tg xs.xo (.t ts) ptg h2) (swNo_ok hk (by rw [xs.xo.hsc]; exact h4)) (sw_none h3) (by rw [as_star (chkTg_star h2)]; rfl)) fun D σ H q => asgT_key q
    · cases h
  | .par is es, st, h => by
    unfold chkS at h
    split at h
    · rename_i pts kt pt pvs k2 pt2 pos
      simp only [Bool.and_eq_true, Bool.or_eq_true, decide_eq_true_eq] at h
      obtain ⟨⟨⟨h1, h2⟩, h3⟩, h4⟩ := h
      have hk : X.env.scope.kind = .function := by rw [xs.xo.hsc]; exact xs.kind
      have hlo := sLo tk hf hgn xs.xo es pvs h1
      rcases h4 with h4 | h4
      · unfold swB at h4
        split at h4
        · rename_i x px y py
          split at h4
          · rename_i a b
            have hlen := as_len2 h2
            match is, hlen with
            | [i, j], _ =>
              unfold parTg chkTgs at h2
              simp only [Bool.and_eq_true] at h2
              obtain ⟨g1, g2⟩ := h2
              unfold parTg chkTgs at g2
              simp only [Bool.and_eq_true] at g2
              unfold chkTg at g1
              have g2 := g2.1
              unfold chkTg at g2
              simp only [Bool.and_eq_true, decide_eq_true_eq] at g1 g2
              have hsw := sw2_ok (env := X.env) (x := x) (y := y) (px := px) (py := py) (pt := pt) (pt2 := pt2) (kt := kt) (k2 := k2) (a := a) (b := b) hk (by rw [xs.xo.hsc]; exact h4)
              unfold sw2 at h4
              simp only [Bool.and_eq_true, Bool.not_eq_true', beq_iff_eq] at h4
              obtain ⟨⟨⟨⟨⟨⟨⟨m1, m2⟩, m3⟩, m4⟩, m5⟩, m6⟩, m7⟩, m8⟩ := h4
              have hij : i ≠ j := fun z => by
                subst z
                rw [g1.1] at g2
                have := Option.some.inj g2.1
                rw [this] at m4
                simp at m4
              refine PS.weak (ps_par xs.xo.calm (by rw [xs.xo.hN]; exact xs.xo.nd) (by rw [xs.xo.hN]; exact g1.1) (by rw [xs.xo.hN]; exact g2.1) hij (by rw [xs.xo.hsc]; exact m1) (by rw [xs.xo.hsc]; exact m2) hlo hsw rfl) fun D σ H q => ?_
              obtain ⟨c, N, Oi, B, O, r, env, q⟩ := par_key q
              refine ⟨c, N, Oi, B, O, r, env, M.wp_mono (fun ws n q vs O' H' as f1 f2 f3 f4 f5 f6 f7 => ?_) (fun _ _ x => x) q⟩
              obtain ⟨hl, q⟩ := q vs O' H' as f1 f2 f3 f4 f5 f6 f7
              match vs, hl with
              | [v, w], _ => exact ⟨v, w, rfl, q H' (Same.refl _)⟩
          · cases h4
        · rename_i x px y py z pz
          split at h4
          · rename_i a b d
            have hlen := as_len2 h2
            match is, hlen with
            | [i, j, l], _ =>
              unfold parTg chkTgs at h2
              simp only [Bool.and_eq_true] at h2
              obtain ⟨g1, g2⟩ := h2
              unfold parTg chkTgs at g2
              simp only [Bool.and_eq_true] at g2
              obtain ⟨g2, g3⟩ := g2
              unfold parTg chkTgs at g3
              simp only [Bool.and_eq_true] at g3
              have g3 := g3.1
              unfold chkTg at g1 g2 g3
              simp only [Bool.and_eq_true, decide_eq_true_eq] at g1 g2 g3
              have hsw := sw3_ok (env := X.env) (x := x) (y := y) (z := z) (px := px) (py := py) (pz := pz) (pt := pt) (pt2 := pt2) (kt := kt) (k2 := k2) (a := a) (b := b) (c := d) hk (by rw [xs.xo.hsc]; exact h4)
              unfold sw3 at h4
              simp only [Bool.and_eq_true, Bool.not_eq_true', beq_iff_eq] at h4
              obtain ⟨⟨⟨⟨⟨⟨⟨⟨⟨⟨⟨⟨m1, m2⟩, m3⟩, m4⟩, m5⟩, m6⟩, m7⟩, m8⟩, m9⟩, m10⟩, m11⟩, m12⟩, m13⟩ := h4
              have ne : ∀ {i j : Nat} {x y : Str}, ct.N[i]? = some x → ct.N[j]? = some y → (x == y) = false → i ≠ j := fun {i j x y} h1 h2 h3 z => by
                subst z
                rw [h1] at h2
                have := Option.some.inj h2
                rw [this] at h3
                simp at h3
              refine PS.weak (ps_par3 xs.xo.calm (by rw [xs.xo.hN]; exact xs.xo.nd) (by rw [xs.xo.hN]; exact g1.1) (by rw [xs.xo.hN]; exact g2.1) (by rw [xs.xo.hN]; exact g3.1) (ne g1.1 g2.1 m6) (ne g1.1 g3.1 m7) (ne g2.1 g3.1 m8)
                (by rw [xs.xo.hsc]; exact m1) (by rw [xs.xo.hsc]; exact m2) (by rw [xs.xo.hsc]; exact m3) hlo hsw rfl) fun D σ H q => ?_
              obtain ⟨c, N, Oi, B, O, r, env, q⟩ := par_key q
              refine ⟨c, N, Oi, B, O, r, env, M.wp_mono (fun ws n q vs O' H' as f1 f2 f3 f4 f5 f6 f7 => ?_) (fun _ _ x => x) q⟩
              obtain ⟨hl, q⟩ := q vs O' H' as f1 f2 f3 f4 f5 f6 f7
              match vs, hl with
              | [u, v, w], _ => exact ⟨u, v, w, rfl, q H' (Same.refl _)⟩
          · cases h4
        · cases h4
      · have hst := chkTgs_star h2
        obtain ⟨l1, l2⟩ := as_len (env := X.env) hst
        refine PS.weak (ps_asg (pe_tup hlo) (pg_tup (n := pts.length) xs.xo.calm (n_tgs xs.xo is pts h2) l1 l2) rfl (swT_ok (by rw [xs.xo.hsc]; exact h4)) rfl) fun D σ H q => ?_
        obtain ⟨c, N, Oi, B, O, r, env, q⟩ := par_key q
        refine ⟨c, N, Oi, B, O, r, env, M.wp_mono (fun ws n q vs O' H' as f1 f2 f3 f4 f5 f6 f7 => ?_) (fun _ _ x => x) (evL_len q)⟩
        obtain ⟨hws, q⟩ := q
        obtain ⟨hl, q⟩ := q vs O' H' as f1 f2 f3 f4 f5 f6 f7
        have hvs : vs.length = ws.length := f5.len
        refine ⟨by rw [sizeLine_eq]; omega, fun p hp => ?_⟩
        refine ⟨p, vs, rfl, .inl (.inl upd_same), by rw [hl, as_len2 h2], hl, q _ (same_new hp)⟩
    · cases h
  | .ret e, st, h => by
    unfold chkS at h
    split at h
    · exact PS.weak (ps_ret (sE tk hf hgn e sc Fn Ex X _ xs.xo h).pf) fun D σ H q => ret_key q
    · cases h
  | .retN, st, h => by
    unfold chkS at h
    split at h
    · refine PS.weak ps_retN fun D σ H ⟨c, N, Oi, B, O, r, env, q⟩ => ?_
      have q : FinS T c Oi B O H D (.rt (.d .none), r) N := q
      exact q O H σ env (Same.refl _) .non (.d .non)
    · cases h
  | .ite c a b, st, h => by
    unfold chkS at h
    split at h
    · simp only [Bool.and_eq_true] at h
      exact PS.weak (ps_if (sE tk hf hgn c sc Fn Ex X _ xs.xo h.1.1).ts (sSL tk hf hgn fu xs a _ h.1.2) (sSL tk hf hgn fu xs b _ h.2)) fun D σ H q => ite_key q
    · cases h
  | .forr tg it body, st, h => by
    unfold chkS at h
    split at h
    · simp only [Bool.and_eq_true] at h
      exact PS.weak (ps_for xs.po xs.xo.calm (sI tk hf hgn it sc Fn Ex X _ _ xs.xo h.1.2) (s_tg xs.xo tg _ h.1.1) (sSL tk hf hgn fu xs body _ h.2) (folded_ok (chkI_set h.1.2))) fun D σ H q => for_key q
    · cases h
  | .whl c body, st, h => by
    unfold chkS at h
    split at h
    · simp only [Bool.and_eq_true] at h
      exact PS.weak (ps_while xs.po (sE tk hf hgn c sc Fn Ex X _ xs.xo h.1).ts (sSL tk hf hgn fu xs body _ h.2)) fun D σ H q => whl_key q
    · cases h
  | .app i e, st, h => by
    unfold chkS at h
    split at h
    · simp only [Bool.and_eq_true, decide_eq_true_eq] at h
      obtain ⟨⟨⟨h1, h2⟩, h3⟩, h4⟩ := h
      subst h2
      obtain ⟨g1, g2, g3, g4⟩ := nameB_ok xs.xo h1
      exact PS.weak (ps_expr (pe_bm PySem.F.plainAttrs_list PySem.F.slot_list_append PySem.F.type_list_append mt_append (pe_var g1 g2 g3 g4) (pa_cons (sE tk hf hgn e sc Fn Ex X _ xs.xo h3).pf pa_nil (star_each (chk_star h3))) rfl (st_few (chk_star h3)) h4 (star_each (chk_star h3)) rfl) rfl) fun D σ H q => app_key q
    · cases h
  | .ext i e, st, h => by
    unfold chkS at h
    split at h
    · simp only [Bool.and_eq_true, decide_eq_true_eq] at h
      obtain ⟨⟨⟨h1, h2⟩, h3⟩, h4⟩ := h
      subst h2
      obtain ⟨g1, g2, g3, g4⟩ := nameB_ok xs.xo h1
      exact PS.weak (ps_expr (pe_bm PySem.F.plainAttrs_list PySem.F.slot_list_extend PySem.F.type_list_extend mt_extend (pe_var g1 g2 g3 g4) (pa_cons (sE tk hf hgn e sc Fn Ex X _ xs.xo h3).pf pa_nil (star_each (chk_star h3))) rfl (st_few (chk_star h3)) h4 (star_each (chk_star h3)) rfl) rfl) fun D σ H q => ext_key q
    · cases h
  | .popTo j i, st, h => by
    unfold chkS at h
    split at h
    · simp only [Bool.and_eq_true, decide_eq_true_eq] at h
      obtain ⟨⟨⟨h1, h2⟩, h3⟩, h4⟩ := h
      subst h2
      obtain ⟨g1, g2, g3, g4⟩ := nameB_ok xs.xo h1
      exact PS.weak (ps_asg (pe_bm0 PySem.F.plainAttrs_list PySem.F.slot_list_pop PySem.F.type_list_pop mt_pop (pe_var g1 g2 g3 g4) rfl h3) (s_tg1 xs.xo h4) rfl rfl (by rw [as_star (chkTg_star h4)]; rfl)) fun D σ H q => pop_key q
    · cases h
  | .put i k e, st, h => by
    unfold chkS at h
    split at h
    · rename_i x px pk pos' pe pos
      simp only [Bool.and_eq_true, Bool.not_eq_true'] at h
      obtain ⟨⟨⟨h1, h2⟩, h3⟩, h4⟩ := h
      obtain ⟨g1, g2, g3, g4⟩ := nameB_ok xs.xo h1
      have hk : X.env.scope.kind = .function := by rw [xs.xo.hsc]; exact xs.kind
      have hsw : ∀ l, swapsWith pe (some (.Subscript (.Name x px) pk pos')) l X.env = pure false := fun l => swNo_ok hk (by cases pe <;> first | rfl | (cases e <;> simp [chkE] at h3))
      have hv : PE X (.Name x px) (tVar i) := pe_var g1 g2 g3 g4
      have h1' := ps_asg (pos := pos) (sE tk hf hgn e sc Fn Ex X _ xs.xo h3).pf (pg_sub (pos := pos') hv (sE tk hf hgn k sc Fn Ex X _ xs.xo h2).pf set_list (by intro v; cases pk <;> first | rfl | cases h4)) (hsw pos.line) (sw_none rfl) rfl
      have h2' := ps_dput (pos := pos) (pos' := pos') (by have := xs.xo.hu; omega) hv (sE tk hf hgn k sc Fn Ex X _ xs.xo h2).pf (sE tk hf hgn e sc Fn Ex X _ xs.xo h3).pf (hsw pos.line)
      exact PS.weak (PS.alt h1' h2') fun D σ H q => put_key q
    · cases h
  | .ex e, st, h => by
    unfold chkS at h
    split at h
    · simp only [Bool.and_eq_true] at h
      have hk : X.env.scope.kind = .function := by rw [xs.xo.hsc]; exact xs.kind
      exact PS.weak (ps_expr (sE tk hf hgn e sc Fn Ex X _ xs.xo h.1).pf (swNo_ok hk (by rw [xs.xo.hsc]; exact h.2))) fun D σ H q => ex_key q
    · cases h
  | .brk, st, h => by
    unfold chkS at h
    split at h
    · refine PS.weak ps_break fun D σ H ⟨c, N, Oi, B, O, r, env, q⟩ => ?_
      have q : FinS T c Oi B O H D (.bk, r) N := q
      exact q O H σ env (Same.refl _)
    · cases h
  | .cnt, st, h => by
    unfold chkS at h
    split at h
    · refine PS.weak ps_continue fun D σ H ⟨c, N, Oi, B, O, r, env, q⟩ => ?_
      have q : FinS T c Oi B O H D (.ct, r) N := q
      exact q O H σ env (Same.refl _)
    · cases h
  | .pas, st, h => by
    unfold chkS at h
    split at h
    · refine PS.weak ps_pass fun D σ H ⟨c, N, Oi, B, O, r, env, q⟩ => ?_
      have q : FinS T c Oi B O H D (.nx, r) N := q
      exact q O H σ env (Same.refl _)
    · cases h
  | .rse, st, h => PS.weak ps_never fun D σ H ⟨c, N, Oi, B, O, r, env, q⟩ => q.elim
theorem sSL (tk : TOk T ct.kw) (hf : ct.fn = T.fn) (hgn : ct.gn = T.gn) (fu : Nat) (xs : XSt T ct.N sc Fn Ex X) : ∀ (s : SL) (st : List Stmt), chkSL ct sc Fn s st = true → PSs X st (rdSL T Ex fu s)
  | .nil, st, h => by
    unfold chkSL at h
    split at h
    · refine PSs.weak pss_nil fun D σ H ⟨c, N, Oi, B, O, r, env, q⟩ => ?_
      have q : FinS T c Oi B O H D (.nx, r) N := q
      exact q O H σ env (Same.refl _)
    · cases h
  | .cons s ss, st, h => by
    unfold chkSL at h
    split at h
    · simp only [Bool.and_eq_true] at h
      refine PSs.weak (pss_cons (sS tk hf hgn fu xs s _ h.1) (sSL tk hf hgn fu xs ss _ h.2)) fun D σ H ⟨c, N, Oi, B, O, r, env, q⟩ => ?_
      unfold evSL at q
      refine ⟨c, N, Oi, B, O, r, env, M.wp_mono (fun qq n q => ?_) (fun _ _ x => x) (M.wp_bind.mp q)⟩
      obtain ⟨fl, r2⟩ := qq
      intro O' H' σ' env' sm
      cases fl with
      | nx => exact ⟨c, n, Oi, B, O', r2, env', M.wp_mono (fun q n h => h.step sm) (fun _ _ x => x) q⟩
      | bk =>
        have q : FinS T c Oi B O H D (.bk, r2) n := q
        exact q O' H' σ' env' sm
      | ct =>
        have q : FinS T c Oi B O H D (.ct, r2) n := q
        exact q O' H' σ' env' sm
      | rt v =>
        have q : FinS T c Oi B O H D (.rt v, r2) n := q
        exact q O' H' σ' env' sm
    · cases h
end
end
end DS

set_option Elab.async false
set_option linter.all false
set_option autoImplicit false
set_option maxRecDepth 100000
set_option maxHeartbeats 4000000
/-! DS23: defs. -/
namespace DS
open PySem PySem.Spec PySem.SeqAt PyProof.Rows L2

section
variable {P : Program} {w : World} {K : Frag} {mg : Str → Option Value} {base : Heap} {k : Nat} {f : Addr} {fd : FuncData} {x qual : Str} {st : Stmt} {N ps : List Str} {sp : Sp}
/-- a def's promise by its body, nothing being shown around -/
theorem fnG_of (F : L2.Fun K x qual st f fd) (S : FnScope N ps (defScope st)) (hlen : ∀ vs H Q E, sp vs H Q E → vs.length = ps.length)
    (hb : ∀ (cdv : Value) (A : Around) (outer : List PySem.Env) (s : Shared) (H : Hp) (vs : List V) (Q : VK) (E : XK), Room k (A.deeper (envOfC qual (defScope st) s.heap.objs.size f cdv)) → A.guards = some [] → sp vs H Q E →
      ∃ t, PSs (cxOf (L2.CX P w) P w K mg base N qual (defScope st) f cdv A outer s H E) (defBody st) t ∧ t { nx := fun _ H' => Q .non H', rt := Q } (L2.start N vs) H) : FnG P w K mg base (k + 1) f fd ps sp := by
  obtain ⟨oc, od, kV, doc, pm, an, cdv, ct, osl, rfl, look, code⟩ := F.ex
  constructor
  · exact hlen
  · intro A outer s H args us vs Q E room gd env binds rv want
    have lenV : vs.length = ps.length := hlen vs H Q E want
    have kin : K.In s.heap := env.mod.kin.keeps fun b o e => (env.bs b o e).1
    have nolim : s.heap.NoLimit := env.mod.nolimit.keeps fun b o e => (env.bs b o e).1
    have loc : ∀ y ∈ ps.zip us, (defScope st).names.lookup y.1 = some .local ∨ ((defScope st).names.lookup y.1 = some .cell ∧ ((cellsFrom (s.heap.objs.size + 1) (defScope st).names []).lookup y.1).isSome = true) := by
      rintro ⟨n, v⟩ hy
      have hmem : n ∈ ps := (List.of_mem_zip hy).1
      cases S.par n hmem with
      | inl q => exact Or.inl q
      | inr q => exact Or.inr ⟨q, PySem.W.cellsFrom_some _ _ _ (Or.inl q)⟩
    apply codeAny_call_function room.depth (kin _ _ look) rfl S.co S.gen rfl (PySem.W.codeRec_of kin code)
    apply binds
    apply wpAny_newFunctionEnv_cells S.kind loc
    intro env' he s1 inCall
    subst he
    constructor
    · exact nolim.keeps inCall.toInCall.keep
    · apply codeAny_func
      obtain ⟨t, run, now⟩ := hb cdv A outer s H vs Q E (room.deeper _) gd want
      have inv := inv_start (CX := L2.CX P w) (P := P) (w := w) (mg := mg) (base := base) (qual := qual) (f := f) (cd := cdv) (E := E) S room.hd env lenV rv inCall
      refine wpAny_mono (run.run [] s1 (L2.start N vs) H _ inv now) ?_ (fun e s' z => z)
      intro fl s' hs
      cases fl with
      | next =>
        obtain ⟨σ', H', J, q⟩ := hs
        exact ⟨V.non, H', J.os, J.bare, J.base, J.hok, rfl, q⟩
      | ret u =>
        obtain ⟨v, σ', H', J, r2, q⟩ := hs
        exact ⟨v, H', J.os, J.bare, J.base, J.hok, r2, q⟩
      | brk =>
        obtain ⟨_, _, _, z⟩ := hs
        exact z.elim
      | cont =>
        obtain ⟨_, _, _, z⟩ := hs
        exact z.elim
end
/-- the place of a def's body -/
theorem xst_def {T : Stc} {N : List Str} {qual : Str} {sc : Scope} {f : Addr} {cdv : Value} {A : Around} {outer : List PySem.Env} {s : Shared} {H : Hp} {E : XK} {ps : List Str} (S : FnScope N ps sc) (room : Room T.k (A.deeper (envOfC qual sc s.heap.objs.size f cdv))) (gd : A.guards = some []) :
    XSt T N sc (fun _ => true) E (cxOf (L2.CX T.P T.w) T.P T.w T.K T.mg T.base N qual sc f cdv A outer s H E) where
  xo := {
    hP := rfl
    hw := rfl
    hK := rfl
    hmg := rfl
    hbase := rfl
    hN := rfl
    hsc := rfl
    calm := rfl
    nd := S.nd
    room := room
    gd := gd
    hfn := rfl
    pas := passes_call (takes_of rfl rfl rfl rfl) fun _ _ _ _ h => h }
  kind := S.kind
  po := passes_of rfl
theorem start_len {N : List Str} {vs : List V} (h : vs.length ≤ N.length) : (L2.start N vs).length = N.length := by
  unfold L2.start
  rw [List.length_append, List.length_map, List.length_replicate]
  omega
theorem RWs.get {K : Frag} {fa : Nat → Addr} {c : StA} {G : Hp} : ∀ {vs : List V} {ws : List W} {i : Nat} {w : W}, RWs K fa c G vs ws → ws[i]? = some w → ∃ v, vs[i]? = some v ∧ RW K fa c G v w
  | _, _, _, _, .nil, e => by simp at e
  | _, _, 0, _, .cons a _, e => by simp at e; subst e; exact ⟨_, rfl, a⟩
  | _, _, i + 1, _, .cons _ t, e => by
    obtain ⟨v, h1, h2⟩ := t.get (i := i) (by simpa using e)
    exact ⟨v, by simpa using h1, h2⟩
/-- the names at a def's entry -/
theorem env_start {T : Stc} {c : StA} {n m : Nat} {O : List Addr} {H : Hp} {N : List Str} {vs : List V} {ws : List W} (h1 : c.sa ∈ O) (h2 : c.la ∈ O) (h3 : ∀ b ∈ O, ∃ o, H b = some o) (h4 : StOk c n H) (h5 : RWs T.K T.fa c (hide O H) vs ws) (hl : ws.length = m) (hN : m ≤ N.length) :
    EOk T c n O H O H (L2.start N vs) (ws.map .sh ++ List.replicate (N.length - m) .no) where
  sub := fun _ h => h
  sO := h1
  lO := h2
  cB := fun z => by
    obtain ⟨_, _, _, _, q, _⟩ := h4.ex
    rw [z] at q; cases q
  trk := h3
  st := h4
  fr := Fr.refl
  len := by
    rw [start_len (by rw [h5.len]; omega), List.length_append, List.length_map, List.length_replicate]
    omega
  sh := fun i w hw => by
    by_cases hi : i < ws.length
    · rw [List.getElem?_append_left (by simpa using hi), List.getElem?_map] at hw
      cases e : ws[i]? with
      | none => rw [e] at hw; cases hw
      | some u =>
        rw [e] at hw
        cases hw
        obtain ⟨v, g1, g2⟩ := h5.get e
        refine ⟨v, ?_, g2⟩
        unfold L2.start
        rw [List.getElem?_append_left (by rw [List.length_map, h5.len]; exact hi), List.getElem?_map, g1]
        rfl
    · rw [List.getElem?_append_right (by simpa using hi), List.getElem?_replicate] at hw
      split at hw <;> cases hw
  ow := fun i w hw => by
    by_cases hi : i < ws.length
    · rw [List.getElem?_append_left (by simpa using hi), List.getElem?_map] at hw
      cases e : ws[i]? with
      | none => rw [e] at hw; cases hw
      | some u => rw [e] at hw; cases hw
    · rw [List.getElem?_append_right (by simpa using hi), List.getElem?_replicate] at hw
      split at hw <;> cases hw
  inj := fun i j w w' a hw => by
    exfalso
    by_cases hi : i < ws.length
    · rw [List.getElem?_append_left (by simpa using hi), List.getElem?_map] at hw
      cases e : ws[i]? with
      | none => rw [e] at hw; cases hw
      | some u => rw [e] at hw; cases hw
    · rw [List.getElem?_append_right (by simpa using hi), List.getElem?_replicate] at hw
      split at hw <;> cases hw
theorem evD_len {fs : Fns} {gs : List W} {fu n np : Nat} {body : SL} {ws : List W} {N : Nat} {Q : W → Nat → Prop} {E : EXk} (h : (evD fs gs fu n np body ws).wp N Q E) : ws.length = np := by
  unfold evD at h
  split at h
  · assumption
  · exact h.elim
/-- behind a body -/
theorem fin_body {T : Stc} {c : StA} {O : List Addr} {H : Hp} {Q : VK} {E : EXk} {q : Fl × Env} {n : Nat} (h : (match q.1 with
    | .rt w => M.ret w
    | .nx => .ret (.d .none)
    | _ => .stuck : M W).wp n (Fin T c O H false Q) E) : FinS T c O H O H { nx := fun _ H' => Q .non H', rt := Q } q n := by
  obtain ⟨fl, r⟩ := q
  intro O' H' σ' env sm
  cases fl with
  | nx =>
    have h : Fin T c O H false Q (.d .none) n := h
    exact h .non H' env.fr env.st (.inl (.d .non))
  | rt w =>
    have h : Fin T c O H false Q w n := h
    exact fun v rv => h v H' env.fr env.st (.inl (rv.mono (hide_sub env.sub)))
  | bk => exact h.elim
  | ct => exact h.elim
/-- a def of the text -/
theorem fnG_ev {T : Stc} {ct : Ct} {x : Str} {st : Stmt} {f : Addr} {fd : FuncData} {ps : List Str} {fu np : Nat} {body : SL} (F : L2.Fun T.K x x st f fd) (tk : TOk T ct.kw) (hf : ct.fn = T.fn) (hgn : ct.gn = T.gn) (S : FnScope ct.N ps (defScope st)) (hp : ps.length = np)
    (hc : chkSL ct (defScope st) (fun _ => true) body (defBody st) = true) : FnG T.P T.w T.K T.mg T.base (T.k + 1) f fd ps (spM T np (evD T.fs T.gs fu ct.N.length np body)) := by
  refine fnG_of F S (fun vs H Q E h => by rw [hp]; exact h.1) fun cdv A outer s H vs Q E room gd ⟨hl, c, n, O, ws, h1, h2, h3, h4, h5, q⟩ => ?_
  refine ⟨_, sSL tk hf hgn fu (xst_def S room gd) body (defBody st) hc, ?_⟩
  have hpl : ps.length ≤ ct.N.length := by have := congrArg List.length S.pre; rw [List.length_take] at this; omega
  have hws := evD_len q
  unfold evD at q
  rw [if_pos hws] at q
  refine ⟨c, n, O, H, O, _, env_start h1 h2 h3 h4 h5 hws (by omega), M.wp_mono (fun q n h => fin_body h) (fun _ _ h => h) (M.wp_bind.mp q)⟩

/-! ### the defs, one after another -/
/-- what is the same for all defs of a text -/
structure Gnd where
  P : Program
  w : World
  K : Frag
  mg : Str → Option Value
  base : Heap
  fa : Nat → Addr
  ctt : Nat → Addr
  gs : List W
  gn : List Str
def mkT (g : Gnd) (names : List Str) (fs : Fns) (k : Nat) : Stc := ⟨g.P, g.w, g.K, g.mg, g.base, k, g.fa, g.ctt, fs, g.gs, names, g.gn⟩
section
variable {g : Gnd} {names : List Str} {fs : Fns} {k k' : Nat} {kw : List (Nat × Nat × List Str × List Nat)}
/-- what is known of a def of the text -/
structure DefK (g : Gnd) (j : Nat) (x : Str) (ps : List Str) (st : Stmt) (fd : FuncData) : Prop where
  fn : L2.Fun g.K x x st (g.fa j) fd
  mg : g.mg x = some (.ref (g.fa j))
  bd : Binds g.K fd ps []
theorem tok_step (tk : TOk (mkT g names fs k) kw) {x : Str} {F : List W → M W} {n : Nat} {fd : FuncData} {ps : List Str} {st : Stmt} (d : DefK g fs.length x ps st fd) (hp : ps.length = n) (hk : k ≤ k')
    (G : FnG g.P g.w g.K g.mg g.base k' (g.fa fs.length) fd ps (spM (mkT g names fs k) n F)) (ha : ∀ ws N Q E, (F ws).wp N Q E → ws.length = n) (hkw : ∀ q ∈ kw, q.1 = fs.length → KwOk g.K fd ps q.2.1 q.2.2.1 q.2.2.2) : TOk (mkT g (names ++ [x]) (fs ++ [F]) k') kw where
  fns := fun i y hy => by
    have ln : names.length = fs.length := tk.ln
    have hy : (names ++ [x])[i]? = some y := hy
    by_cases q : i < fs.length
    · rw [List.getElem?_append_left (by omega)] at hy
      obtain ⟨F', n', fd', ps', g1, g2, g3, g4, g5, g6, g7, g8⟩ := tk.fns i y hy
      have g1 : fs[i]? = some F' := g1
      refine ⟨F', n', fd', ps', ?_, g2, g3, g4, g5, g6.mono hk, g7, g8⟩
      show (fs ++ [F])[i]? = some F'
      rw [List.getElem?_append_left q]
      exact g1
    · have h1 := get_lt' hy
      rw [List.length_append] at h1
      have e : i = fs.length := by simp at h1; omega
      subst e
      rw [List.getElem?_append_right (by omega), ln, Nat.sub_self] at hy
      cases hy
      refine ⟨F, n, fd, ps, ?_, d.mg, d.fn.kp, d.bd, hp, G, ha, hkw⟩
      show (fs ++ [F])[fs.length]? = some F
      rw [List.getElem?_append_right (by omega), Nat.sub_self]
      rfl
  gls := tk.gls
  bn := tk.bn
  ln := by
    have ln : names.length = fs.length := tk.ln
    show (names ++ [x]).length = (fs ++ [F]).length
    rw [List.length_append, List.length_append, ln]
    rfl
theorem tok_zero (hg : ∀ (j : Nat) (x : Str), g.gn[j]? = some x → ∃ w u v, g.gs[j]? = some w ∧ g.mg x = some u ∧ RelV v u ∧ ∀ c G, RW g.K g.fa c G v w) (hb : ∀ x ∈ bnames, g.mg x = none) : TOk (mkT g [] [] 0) kw where
  fns := fun i x h => by simp [mkT] at h
  gls := hg
  bn := hb
  ln := rfl
/-- a def that is read by its text -/
theorem tok_ev (tk : TOk (mkT g names fs k) kw) {ct : Ct} {x : Str} {fd : FuncData} {ps : List Str} {st : Stmt} {fu np : Nat} {body : SL} (d : DefK g fs.length x ps st fd) (hc : ct.fn = names ∧ ct.gn = g.gn ∧ ct.kw = kw) (S : FnScope ct.N ps (defScope st)) (hp : ps.length = np)
    (chk : chkSL ct (defScope st) (fun _ => true) body (defBody st) = true) (hkw : ∀ q ∈ kw, q.1 = fs.length → KwOk g.K fd ps q.2.1 q.2.2.1 q.2.2.2) : TOk (mkT g (names ++ [x]) (fs ++ [evD fs g.gs fu ct.N.length np body]) (k + 1)) kw := by
  obtain ⟨h1, h2, h3⟩ := hc
  refine tok_step tk d hp (Nat.le_succ k) ?_ (fun ws N Q E h => evD_len h) hkw
  exact fnG_ev (T := mkT g names fs k) (ct := ct) d.fn (by rw [h3]; exact tk) h1 h2 S hp chk
/-- a def that calls itself -/
def evR (fs : Fns) (gs : List W) (fu n np : Nat) (body : SL) : Nat → List W → M W
  | 0 => fun _ => .stuck
  | m + 1 => evD (fs ++ [evR fs gs fu n np body m]) gs fu n np body
theorem evR_len {gs : List W} {fu n np : Nat} {body : SL} {m : Nat} {ws : List W} {N : Nat} {Q : W → Nat → Prop} {E : EXk} (h : (evR fs gs fu n np body m ws).wp N Q E) : ws.length = np := by
  cases m with
  | zero => exact h.elim
  | succ m => exact evD_len h
theorem tok_rec (tk : TOk (mkT g names fs k) kw) {ct : Ct} {x : Str} {fd : FuncData} {ps : List Str} {st : Stmt} {fu np : Nat} {body : SL} (m : Nat) (d : DefK g fs.length x ps st fd) (hc : ct.fn = names ++ [x] ∧ ct.gn = g.gn ∧ ct.kw = kw) (S : FnScope ct.N ps (defScope st)) (hp : ps.length = np)
    (chk : chkSL ct (defScope st) (fun _ => true) body (defBody st) = true) (hkw : ∀ q ∈ kw, q.1 = fs.length → KwOk g.K fd ps q.2.1 q.2.2.1 q.2.2.2) : TOk (mkT g (names ++ [x]) (fs ++ [evR fs g.gs fu ct.N.length np body m]) (k + m)) kw := by
  obtain ⟨h1, h2, h3⟩ := hc
  induction m with
  | zero =>
    refine tok_step tk d hp (Nat.le_refl _) ⟨fun vs H Q E h => by rw [hp]; exact h.1, fun A outer s H args us vs Q E _ _ _ _ _ ⟨_, _, _, _, _, _, _, _, _, _, z⟩ => z.elim⟩ (fun ws N Q E h => evR_len h) hkw
  | succ m ih =>
    refine tok_step tk d hp (by omega) ?_ (fun ws N Q E h => evR_len h) hkw
    exact fnG_ev (T := mkT g (names ++ [x]) (fs ++ [evR fs g.gs fu ct.N.length np body m]) (k + m)) (ct := ct) d.fn (by rw [h3]; exact ih) h1 h2 S hp chk
end
end DS

set_option Elab.async false
set_option linter.all false
set_option autoImplicit false
set_option maxRecDepth 100000
set_option maxHeartbeats 4000000
/-! DS24: the laws' own helpers: like, mixed, draw. -/
namespace DS
open PySem PySem.Spec PySem.SeqAt PyProof.Rows L2

/-! ### repr -/
def okS (d : PyData) : Bool := d.showable && d.leavesShort 600 && decide (d.bulk ≤ 20000) && decide (d.depth ≤ 60)
theorem okS_fits {d : PyData} (h : okS d = true) : d.showable = true ∧ d.shown.length ≤ sizeLine ∧ d.depth ≤ 60 := by
  unfold okS at h
  simp only [Bool.and_eq_true, decide_eq_true_eq] at h
  obtain ⟨⟨⟨h1, h2⟩, h3⟩, h4⟩ := h
  refine ⟨h1, ?_, h4⟩
  have := PyData.shown_le_bulk 600 (by omega) d h2
  rw [sizeLine_eq]
  have h5 : (600 + 2) * d.bulk ≤ 602 * 20000 := Nat.mul_le_mul_left _ h3
  omega
mutual
theorem RD.nodict {K : Frag} {G : Hp} : ∀ (d : PyData) (v : V), RD K G v d → d.hasDict = false
  | .none, _, _ => rfl
  | .bool _, _, _ => rfl
  | .int _, _, _ => rfl
  | .str _, _, _ => rfl
  | .list ds, _, h => by
    cases h with
    | lst _ h2 => simp only [PyData.hasDict]; exact RDs.nodict ds _ h2
  | .tuple ds, _, h => by
    cases h with
    | tup _ h2 => simp only [PyData.hasDict]; exact RDs.nodict ds _ h2
  | .dict _, _, h => by cases h
theorem RDs.nodict {K : Frag} {G : Hp} : ∀ (ds : List PyData) (vs : List V), RDs K G vs ds → PyData.hasDictAll ds = false
  | [], _, _ => rfl
  | d :: ds, _, h => by
    cases h with
    | cons h1 h2 => simp only [PyData.hasDictAll, RD.nodict d _ h1, RDs.nodict ds _ h2, Bool.or_false]
end
def rRepr (K : Frag) : List V → Hp → VK → Prop := fun xs H Q => ∃ x d, xs = [x] ∧ Dp K H x d ∧ d.hasDict = false ∧ okS d = true ∧ Q (.str d.shown) H
theorem call_repr_d {X : Cx} (gd : X.A.guards = some []) (hu : X.A.units + 65 < cLine) : CallR X (.builtin "repr") (rRepr X.K) := by
  intro pins s σ H xs us Q I r ⟨x, d, e, dp, nd, ok, q⟩
  subst e
  obtain ⟨u, rfl, rx⟩ := vals1 r
  obtain ⟨h1, h2, h3⟩ := okS_fits ok
  have fin : ∀ (h' : Heap) (t tk : Tok), (∀ b o, s.heap.get? b = some o → h'.get? b = some o) → EP X pins σ Q (.str d.shown t) { s with heap := h', toks := tk } := fun h' t tk hk => ⟨.str d.shown, H, I.kept (t' := tk) hk, ⟨t, rfl⟩, q⟩
  obtain ⟨as, rd⟩ := Dp.reads I d x u dp rx
  have hsm : d.hasDict = true → sysModules ∉ as := fun z => by rw [nd] at z; cases z
  cases rd with
  | none => exact PySem.P.repr_of_none (fin s.heap _ _ fun _ _ z => z)
  | bool b => exact PySem.P.repr_of_bool (fin s.heap _ _ fun _ _ z => z)
  | int i t =>
    have h1 : i.natAbs.log2 < 1920 := by simpa [PyData.showable] using h1
    exact PySem.P.repr_of_int h1 (fin s.heap _ _ fun _ _ z => z)
  | str y t => exact PySem.P.repr_of_str (fin s.heap _ _ fun _ _ z => z) h2
  | list a b c e => exact repr_of_reads' (Reads.list a b c e) h1 hsm gd (by omega) (fun _ _ z => z) (fun h' u tk hk => fin h' u tk hk) h2
  | tuple a b c e => exact repr_of_reads' (Reads.tuple a b c e) h1 hsm gd (by omega) (fun _ _ z => z) (fun h' u tk hk => fin h' u tk hk) h2
  | dict a b c e f => cases dp
def likeF : List W → M W
  | [.d a, .d b] => if okS a = true ∧ okS b = true then .ret (.b (decide (a.shown = b.shown))) else .stuck
  | _ => .stuck
theorem likeF_len {ws : List W} {N : Nat} {Q : W → Nat → Prop} {E : EXk} (h : (likeF ws).wp N Q E) : ws.length = 2 := by
  unfold likeF at h
  split at h
  · rfl
  · exact h.elim
/-- the reading of like's body -/
def likeTS (K : Frag) : TS := tRet (tOp rEq (tCB (rRepr K) (tCons (tVar 0) tNil)) (tCB (rRepr K) (tCons (tVar 1) tNil)))
theorem like_key {T : Stc} {vs : List V} {H : Hp} {Q : VK} {E : XK} (h : spM T 2 likeF vs H Q E) : likeTS T.K { nx := fun _ H' => Q .non H', rt := Q } (L2.start ["a", "b"] vs) H := by
  obtain ⟨hl, c, n, O, ws, h1, h2, h3, h4, h5, q⟩ := h
  unfold likeF at q
  split at q
  · rename_i a b
    split at q
    · rename_i hok
      cases h5 with
      | cons ra h5 => cases h5 with
        | cons rb h5 => cases h5 with
          | nil =>
            have q : Fin T c O H false Q (.b (decide (a.shown = b.shown))) n := q
            refine ⟨_, rfl, _, a, rfl, dp_same hide_le _ _ (RD.dp _ _ ra.data), RD.nodict _ _ ra.data, hok.1, _, rfl, _, b, rfl, dp_same hide_le _ _ (RD.dp _ _ rb.data), RD.nodict _ _ rb.data, hok.2, rfl, ?_⟩
            refine q _ H Fr.refl h4 (.inl (.d ?_))
            have e : decide (V.str a.shown = V.str b.shown) = decide (a.shown = b.shown) := by
              by_cases z : a.shown = b.shown
              · rw [z]; simp
              · rw [decide_eq_false z, decide_eq_false]
                exact fun y => z (V.str.inj y)
            rw [e]
            exact .bl _
    · exact q.elim
  · exact q.elim

/-! ### mixed -/
def mixB : SL := .cons (.asg (.n 0) (.bin .mod (.b1 .int (.v 0)) (.int 2147483647))) (.cons (.ret (.bin .mod (.bin .mul (.bin .mod (.bin .add (.bin .add (.bin .mul (.v 0) (.bin .add (.int 48271) (.bin .mul (.bin .mul (.int 2) (.v 1)) (.v 1)))) (.bin .mul (.int 69621) (.v 1))) (.int 11)) (.int 2147483647)) (.int 69621)) (.int 2147483629))) .nil)
def mixI (c k : Int) : Int := (c % 2147483647 * (48271 + 2 * k * k) + 69621 * k + 11) % 2147483647 * 69621 % 2147483629
theorem log_lt {i : Int} {m : Nat} (h0 : 0 ≤ i) (h : i < 2 ^ m) (hm : 0 < m) : i.natAbs.log2 < m := by
  by_cases z : i.natAbs = 0
  · rw [z]; simpa using hm
  · rw [Nat.log2_lt z]
    have : ((i.natAbs : Nat) : Int) < ((2 ^ m : Nat) : Int) := by rw [Int.natAbs_of_nonneg h0, Int.natCast_pow]; exact h
    exact_mod_cast this
theorem mul_ok {i j : Int} (hi : 0 ≤ i) (h2 : i < 2 ^ 200) (hj : 0 ≤ j) (h3 : j < 2 ^ 200) : intMul i j = some (.i (i * j)) := by
  unfold intMul
  rw [if_pos]
  have := log_lt hi h2 (by omega)
  have := log_lt hj h3 (by omega)
  omega
theorem mix_ret {gs : List W} {fu : Nat} {c k : Int} (h0 : 0 ≤ k) (h1 : k < 2 ^ 41) : evD [] gs fu 2 2 mixB [.i c, .i k] = .ret (.i (mixI c k)) := by
  have e0 : 0 ≤ c % 2147483647 := Int.emod_nonneg _ (by omega)
  have e1 : c % 2147483647 < 2147483647 := Int.emod_lt_of_pos _ (by omega)
  have k2 : 2 * k * k < 2 ^ 83 := by
    have : 2 * k * k ≤ 2 * k * 2 ^ 41 := Int.mul_le_mul_of_nonneg_left (by omega) (by omega)
    omega
  have k3 : 0 ≤ 2 * k * k := Int.mul_nonneg (by omega) h0
  have m1 : intMul 2 k = some (.i (2 * k)) := mul_ok (by omega) (by omega) h0 (by omega)
  have m2 : intMul (2 * k) k = some (.i (2 * k * k)) := mul_ok (by omega) (by omega) h0 (by omega)
  have m3 : intMul (c % 2147483647) (48271 + 2 * k * k) = some (.i (c % 2147483647 * (48271 + 2 * k * k))) := mul_ok e0 (by omega) (by omega) (by omega)
  have m4 : intMul 69621 k = some (.i (69621 * k)) := mul_ok (by omega) (by omega) h0 (by omega)
  have f0 : 0 ≤ (c % 2147483647 * (48271 + 2 * k * k) + 69621 * k + 11) % 2147483647 := Int.emod_nonneg _ (by omega)
  have f1 : (c % 2147483647 * (48271 + 2 * k * k) + 69621 * k + 11) % 2147483647 < 2147483647 := Int.emod_lt_of_pos _ (by omega)
  have m5 : intMul ((c % 2147483647 * (48271 + 2 * k * k) + 69621 * k + 11) % 2147483647) 69621 = some (.i ((c % 2147483647 * (48271 + 2 * k * k) + 69621 * k + 11) % 2147483647 * 69621)) := mul_ok f0 (by omega) (by omega) (by omega)
  unfold evD
  rw [if_pos (show [W.i c, W.i k].length = 2 from rfl)]
  simp [mixB, evSL, evS, evE, escE, dem, dem1, getN, binW, int2, intMod, b1W, intW, addW, asgE, fresh, isBox, W.i, m1, m2, m3, m4, m5, mixI]
theorem mixI_lo (c k : Int) : 0 ≤ mixI c k ∧ mixI c k < 2147483629 := ⟨Int.emod_nonneg _ (by omega), Int.emod_lt_of_pos _ (by omega)⟩
end DS

set_option Elab.async false
set_option linter.all false
set_option autoImplicit false
set_option maxRecDepth 100000
set_option maxHeartbeats 4000000
/-! DS25: draw. -/
namespace DS
open PySem PySem.Spec PySem.SeqAt PyProof.Rows L2
def drawF : List W → M W
  | [.tok, .d (.int l)] => if l.natAbs.log2 < 9000 then .draw l fun i => .ret (.i i) else .stuck
  | _ => .stuck
theorem drawF_len {ws : List W} {N : Nat} {Q : W → Nat → Prop} {E : EXk} (h : (drawF ws).wp N Q E) : ws.length = 2 := by
  unfold drawF at h
  split at h
  · rfl
  · exact h.elim
def rInt1 : List V → Hp → VK → Prop := fun xs H Q => (∃ i, xs = [V.int i] ∧ Q (V.int i) H) ∨ ∃ k, xs = [V.bl k] ∧ Q (V.int (if k = true then 1 else 0)) H
def rLenS (K : Frag) : List V → Hp → VK → Prop := fun xs H Q => ∃ p ys, xs = [V.ref p] ∧ (SqL K H p ys ∨ SqT K H p ys) ∧ Q (V.int ↑ys.length) H
abbrev rModI : R2 := rI (fun _ j => 0 < j) fun i j => V.int (i % j)
abbrev rDivI : R2 := rI CDivW fun i j => V.int (i / j)
abbrev rMulI : R2 := rI CMulW fun i j => V.int (i * j)
abbrev rAddI : R2 := rI0 fun i j => V.int (i + j)
def stGet (k : Str) : TE := tDGet (tVar 0) (tC (.str k))
def mixS (T : Stc) (E : XK) (a b : TE) : TE := tCG (spM T 2 (evD [] T.gs 0 2 2 mixB)) E (tCons a (tCons b tNil))
/-- the reading of draw's body -/
def drawTS (T : Stc) (E : XK) : TS :=
  tSeq (tAsg (stGet "at") (gName 2))
  (tSeq (sDPut (tVar 0) (tC (.str "at")) (tOp rAddI (tVar 2) (tC (.int 1))))
  (tSeq (tAsg (tOp rModI (tCB rInt1 (tCons (tVar 2) tNil)) (tCB (rLenS T.K) (tCons (stGet "cells") tNil))) (gName 3))
  (tSeq (tAsg (tOp (rIxL T.K) (stGet "lefts") (tVar 3)) (gName 4))
  (tSeq (tIfS (tTest (tOp (rI0 fun i j => .bl (decide (j < i))) (tVar 4) (tC (.int 0))))
    (tSeq (tAsg (tOp rDivI (tVar 4) (tVar 1)) (gSub (stGet "lefts") (tVar 3) rSetL)) (tRet (tOp rModI (tCB rInt1 (tCons (tVar 4) tNil)) (tVar 1)))) tNext)
  (tSeq (tAsg (mixS T E (mixS T E (tOp (rIxL T.K) (stGet "cells") (tVar 3)) (tVar 2)) (tOp rAddI (tC (.int 40)) (tVar 2))) (gName 5))
  (tRet (tOp rModI (tOp rDivI (tCB rInt1 (tCons (tOp rAddI (tOp rMulI (tVar 5) (tC (.int 2147483647))) (mixS T E (tVar 5) (tOp rAddI (tC (.int 7)) (tVar 2)))) tNil)) (tC (.int 64))) (tVar 1))))))))
theorem st_at {c : StA} {n : Int} : valV (stDict c n) (Sum.inr "at") = some (.int n) := rfl
theorem st_cells {c : StA} {n : Int} : valV (stDict c n) (Sum.inr "cells") = some (.ref c.ca) := rfl
theorem st_lefts {c : StA} {n : Int} : valV (stDict c n) (Sum.inr "lefts") = some (.ref c.la) := rfl
theorem st_put {c : StA} {n m : Int} : putK (stDict c n) (Sum.inr "at") (.int m) = stDict c m := rfl
theorem ix_some {α : Type} {xs : List α} {i : Int} (h0 : 0 ≤ i) (h1 : i < xs.length) : ∃ x, atI xs i = some x ∧ ixN xs.length i = some i.toNat := by
  have h2 : ixN xs.length i = some i.toNat := by unfold ixN; rw [if_pos h0, if_pos h1]
  have h3 : i.toNat < xs.length := by omega
  exact ⟨xs[i.toNat], by unfold atI; rw [h2]; exact List.getElem?_eq_getElem h3, h2⟩
theorem atI_map {is : List Int} {i : Int} {v : V} (h : atI (is.map V.int) i = some v) : ∃ z, v = .int z := by
  unfold atI at h
  rw [List.length_map] at h
  cases q : ixN is.length i with
  | none => rw [q] at h; cases h
  | some j =>
    rw [q] at h
    have h : (is.map V.int)[j]? = some v := h
    rw [List.getElem?_map] at h
    cases q2 : is[j]? with
    | none => rw [q2] at h; cases h
    | some z => rw [q2] at h; exact ⟨z, (Option.some.inj h).symm⟩
/-- mixed is called -/
theorem mix_sp {T : Stc} {E : XK} {H : Hp} {Q : VK} {c : StA} {n : Nat} {O : List Addr} {u k : Int} (h1 : c.sa ∈ O) (h2 : c.la ∈ O) (k0 : 0 ≤ k) (k1 : k < 2 ^ 41) (ht : ∀ b ∈ O, ∃ o, H b = some o) (st : StOk c n H)
    (q : ∀ z H3, 0 ≤ z → z < 2147483629 → Fr c H H3 → StOk c n H3 → Q (.int z) H3) : spM T 2 (evD [] T.gs 0 2 2 mixB) [.int u, .int k] H Q E := by
  refine ⟨rfl, c, n, O, [.i u, .i k], h1, h2, ht, st, .cons (.d (.int u)) (.cons (.d (.int k)) .nil), ?_⟩
  rw [mix_ret k0 k1]
  intro v H3 f s rb
  rw [rb.int]
  exact q _ H3 (mixI_lo u k).1 (mixI_lo u k).2 f s
theorem trk_fr {c : StA} {n : Nat} {O : List Addr} {H H1 : Hp} (t : ∀ b ∈ O, ∃ o, H b = some o) (f : Fr c H H1) (s : StOk c n H1) : ∀ b ∈ O, ∃ o, H1 b = some o := fun b hb => by
  by_cases e1 : b = c.sa
  · rw [e1]; exact s.sa
  · by_cases e2 : b = c.la
    · rw [e2]; exact s.la
    · obtain ⟨o, ho⟩ := t b hb
      exact ⟨o, f b o e1 e2 ho⟩
theorem draw_key {T : Stc} {vs : List V} {H : Hp} {Q : VK} {E : XK} (h : spM T 2 drawF vs H Q E) : drawTS T E { nx := fun _ H' => Q .non H', rt := Q } (L2.start ["s", "l", "a", "p", "f", "n"] vs) H := by
  obtain ⟨hl, c, n, O, ws, h1, h2, h3, h4, h5, q⟩ := h
  unfold drawF at q
  split at q
  · rename_i l
    split at q
    · rename_i hlog
      obtain ⟨l0, hn, q⟩ := q
      cases h5 with
      | cons ra h5 => cases h5 with
        | cons rb h5 => cases h5 with
          | nil =>
            cases ra
            have e := rb.inti
            subst e
            obtain ⟨⟨cs, ls, m, g1, g2, g3, hne, hlen, m0, m1⟩, ne⟩ := h4
            have hs0 : (L2.start ["s", "l", "a", "p", "f", "n"] [.ref c.sa, .int l]) = [some (.ref c.sa), some (.int l), none, none, none, none] := rfl
            rw [hs0]
            have hcs : 0 < (cs.length : Int) := by
              have : cs.length ≠ 0 := fun z => hne (List.length_eq_zero_iff.mp z)
              omega
            have nca : c.ca ≠ c.sa := fun z => by rw [z, g1] at g2; cases g2
            have nla : c.la ≠ c.sa := fun z => by rw [z, g1] at g3; cases g3
            -- at
            refine ⟨.ref c.sa, rfl, c.sa, .int m, rfl, DGet.k (k := Sum.inr "at") g1, ?_⟩
            -- state["at"] = at + 1
            refine ⟨.int m, rfl, m, 1, rfl, rfl, .ref c.sa, rfl, c.sa, upd H c.sa (.dK (stDict c (m + 1))), rfl, DPut.k (k := Sum.inr "at") g1 (by rw [sizeLine_eq]; show 3 < _; omega), ?_⟩
            generalize hH1 : upd H c.sa (.dK (stDict c (m + 1))) = H1
            have k1 : H1 c.sa = some (.dK (stDict c (m + 1))) := by rw [← hH1]; exact upd_same
            have k2 : H1 c.ca = some (.lst (cs.map V.int)) := by rw [← hH1, upd_ne nca]; exact g2
            have k3 : H1 c.la = some (.lst (ls.map V.int)) := by rw [← hH1, upd_ne nla]; exact g3
            have f1 : Fr c H H1 := fun b o b1 b2 e => by rw [← hH1, upd_ne b1]; exact e
            have s1 : StOk c (n + 1) H1 := ⟨⟨cs, ls, m + 1, k1, k2, k3, hne, hlen, by omega, by omega⟩, ne⟩
            have t1 : ∀ b ∈ O, ∃ o, H1 b = some o := fun b hb => by
              by_cases z : b = c.sa
              · exact ⟨_, z ▸ k1⟩
              · obtain ⟨o, ho⟩ := h3 b hb
                exact ⟨o, by rw [← hH1, upd_ne z]; exact ho⟩
            -- place
            have dcells : DGet H1 c.sa (.str "cells") (some (.ref c.ca)) := DGet.k (k := Sum.inr "cells") k1
            have dlefts : DGet H1 c.sa (.str "lefts") (some (.ref c.la)) := DGet.k (k := Sum.inr "lefts") k1
            refine ⟨.int m, rfl, .inl ⟨m, rfl, ⟨.ref c.sa, rfl, c.sa, .ref c.ca, rfl, dcells, c.ca, cs.map V.int, rfl, .inl (.inl (.inl k2)), m, _, rfl, rfl, by rw [List.length_map]; exact hcs, ?_⟩⟩⟩
            obtain ⟨p, hp⟩ : ∃ p, p = m % (((cs.map V.int).length : Nat) : Int) := ⟨_, rfl⟩
            have p0 : 0 ≤ p := by rw [hp]; exact Int.emod_nonneg _ (by rw [List.length_map]; omega)
            have p1 : p < cs.length := by rw [hp, List.length_map]; exact Int.emod_lt_of_pos _ hcs
            show tSeq _ _ _ [some (V.ref c.sa), some (V.int l), some (V.int m), some (V.int (m % (((cs.map V.int).length : Nat) : Int))), none, none] H1
            rw [← hp]
            -- left
            obtain ⟨x, hx, hxN⟩ := ix_some (xs := ls.map V.int) p0 (by rw [List.length_map, hlen]; exact p1)
            obtain ⟨f, rfl⟩ := atI_map hx
            refine ⟨.ref c.sa, rfl, c.sa, .ref c.la, rfl, dlefts, .int p, rfl, c.la, ls.map V.int, p, .int f, rfl, rfl, .inl (.inl k3), hx, ?_⟩
            -- if left > 0
            refine ⟨.int f, rfl, f, 0, rfl, rfl, decide (0 < f), rfl, ?_⟩
            by_cases hf : 0 < f
            · rw [decide_eq_true hf]
              refine iteT ?_
              refine ⟨.int f, rfl, .int l, rfl, f, l, rfl, rfl, ⟨l0, hlog⟩, .ref c.sa, rfl, c.sa, .ref c.la, rfl, dlefts, .int p, rfl, c.la, ls.map V.int, p, p.toNat, rfl, rfl, k3, hxN, ?_⟩
              refine ⟨.int f, rfl, .inl ⟨f, rfl, .int l, rfl, f, l, rfl, rfl, l0, ?_⟩⟩
              have hq := q (f % l) (Int.emod_nonneg _ (by omega)) (Int.emod_lt_of_pos _ l0)
              have hq : Fin T c O H false Q (.i (f % l)) (n + 1) := hq
              refine hq _ _ (fun b o b1 b2 e => by rw [upd_ne b2]; exact f1 b o b1 b2 e) ⟨⟨cs, ls.set p.toNat (f / l), m + 1, by rw [upd_ne (Ne.symm nla)]; exact k1, by rw [upd_ne ne]; exact k2, by rw [upd_same, List.map_set], hne, by rw [List.length_set]; exact hlen, by omega, by omega⟩, ne⟩ (.inl (.d (.int _)))
            · rw [decide_eq_false hf]
              refine iteF ?_
              -- number
              obtain ⟨y, hy, _⟩ := ix_some (xs := cs.map V.int) p0 (by rw [List.length_map]; exact p1)
              obtain ⟨u, rfl⟩ := atI_map hy
              refine ⟨.ref c.sa, rfl, c.sa, .ref c.ca, rfl, dcells, .int p, rfl, c.ca, cs.map V.int, p, .int u, rfl, rfl, .inl (.inl k2), hy, .int m, rfl, ?_⟩
              refine mix_sp h1 h2 m0 (by omega) t1 s1 fun z H3 z0 z1 f3 s3 => ?_
              have t3 := trk_fr t1 f3 s3
              refine ⟨.int m, rfl, 40, m, rfl, rfl, mix_sp h1 h2 (by omega) (by omega) t3 s3 fun z4 H4 z40 z41 f4 s4 => ?_⟩
              have t4 := trk_fr t3 f4 s4
              refine ⟨.int z4, rfl, z4, 2147483647, rfl, rfl, ?_, .int z4, rfl, .int m, rfl, 7, m, rfl, rfl, ?_⟩
              · have a1 := log_lt (m := 31) z40 (by omega) (by omega)
                have a2 : (2147483647 : Int).natAbs.log2 < 32 := by decide
                show z4.natAbs.log2 + (2147483647 : Int).natAbs.log2 < 1000000
                omega
              · refine mix_sp h1 h2 (by omega) (by omega) t4 s4 fun z5 H5 z50 z51 f5 s5 => ?_
                refine ⟨_, z5, rfl, rfl, .inl ⟨_, rfl, _, 64, rfl, rfl, ⟨by omega, by decide⟩, .int l, rfl, _, l, rfl, rfl, l0, ?_⟩⟩
                have hq := q ((z4 * 2147483647 + z5) / 64 % l) (Int.emod_nonneg _ (by omega)) (Int.emod_lt_of_pos _ l0)
                have hq : Fin T c O H false Q (.i ((z4 * 2147483647 + z5) / 64 % l)) (n + 1) := hq
                exact hq _ H5 ((f1.trans f3).trans (f4.trans f5)) s5 (.inl (.d (.int _)))
    · exact q.elim
  · exact q.elim
end DS

set_option Elab.async false
set_option linter.all false
set_option autoImplicit false
set_option maxRecDepth 100000
set_option maxHeartbeats 4000000
/-! DS26: begin, law, the end. -/
namespace DS
open PySem PySem.Spec PySem.SeqAt PyProof.Rows L2
def rListOf (K : Frag) : List V → Hp → VK → Prop := fun xs H Q => ∃ p ys, xs = [V.ref p] ∧ (SqL K H p ys ∨ SqT K H p ys) ∧ ∀ l, H l = none → Q (.ref l) (upd H l (.lst ys))
abbrev rPowI : R2 := rI CPow fun i j => V.int (i ^ j.toNat)
abbrev rGeI : R2 := rI0 fun i j => .bl (decide (j ≤ i))
def beginTS (K : Frag) : TS :=
  tSeq (tAsg (tIf (tTest (tOp (rNeD K) (tVar 0) (tLst tNil))) (tCB (rListOf K) (tCons (tVar 0) tNil)) (tLst (tCons (tC (.int 0)) tNil))) (gName 1))
  (tRet (tDisp [(tC (.str "cells"), tVar 1), (tC (.str "lefts"), tLc (iList K (tVar 1)) (gName 2) tYes (tIf (tTest (tOp rGeI (tVar 2) (tOp rPowI (tC (.int 10)) (tC (.int 18))))) (tVar 2) (tC (.int 0))) [2]), (tC (.str "at"), tC (.int 0))]))
def spBegin (K : Frag) : Sp := fun vs H Q _ => ∃ (a : Addr) (ns : List Int), vs = [.ref a] ∧ SqL K H a (ns.map V.int) ∧ ns.length ≤ 1000 ∧ ∀ (c : StA) H', H c.sa = none → H c.ca = none → H c.la = none → Same H H' → StOk c 0 H' → Q (.ref c.sa) H'
theorem shaped_ints (ns : List Int) : shaped (.list (ns.map PyData.int)) = true := by
  have h1 : PyData.canLayAll0 (ns.map PyData.int) = true := by
    induction ns with
    | nil => rfl
    | cons n r ih => rw [List.map_cons, PyData.canLayAll0, ih]; rfl
  have h2 : PyData.depthAll (ns.map PyData.int) = 0 := by
    clear h1
    induction ns with
    | nil => rfl
    | cons n r ih => rw [List.map_cons, PyData.depthAll, ih]; rfl
  unfold shaped
  rw [PyData.canLay0, h1, PyData.depth, h2]
  rfl
theorem dp_ints {K : Frag} {H : Hp} : ∀ ns : List Int, DpAll K H (ns.map V.int) (ns.map PyData.int)
  | [] => .nil
  | n :: r => .cons (.int n) (dp_ints r)
theorem begin_key {K : Frag} {vs : List V} {H : Hp} {Q : VK} {E : XK} (h : spBegin K vs H Q E) : beginTS K { nx := fun _ H' => Q .non H', rt := Q } (L2.start ["s", "c", "i"] vs) H := by
  obtain ⟨a, ns, rfl, hS, hl, q⟩ := h
  have hs0 : L2.start ["s", "c", "i"] [.ref a] = [some (.ref a), none, none] := rfl
  rw [hs0]
  -- behind the first row
  have rest : ∀ (ca : Addr) (cs : List Int) (H2 : Hp), H ca = none → H2 ca = some (.lst (cs.map V.int)) → Same H H2 → cs ≠ [] → cs.length ≤ 1000 → tRet (tDisp [(tC (.str "cells"), tVar 1), (tC (.str "lefts"), tLc (iList K (tVar 1)) (gName 2) tYes (tIf (tTest (tOp rGeI (tVar 2) (tOp rPowI (tC (.int 10)) (tC (.int 18))))) (tVar 2) (tC (.int 0))) [2]), (tC (.str "at"), tC (.int 0))])
      { nx := fun _ H' => Q .non H', rt := Q } [some (.ref a), some (.ref ca), none] H2 := by
    intro ca cs H2 hca g2 sm hne hcl p hp
    have s3 : Same H2 (upd H2 p (.dK [])) := same_new hp
    have npc : ca ≠ p := fun z => by rw [z, hp] at g2; cases g2
    have g3 : upd H2 p (.dK []) ca = some (.lst (cs.map V.int)) := s3 _ _ g2
    have hHp : H p = none := by
      cases z : H p with
      | none => rfl
      | some o => have := sm _ _ z; rw [hp] at this; cases this
    generalize hH3 : upd H2 p (.dK []) = H3 at s3 g3
    have hp3 : H3 p = some (.dK []) := by rw [← hH3]; exact upd_same
    refine ⟨.ref ca, rfl, .ref ca, rfl, ca, rfl, ⟨_, .inl (.inl g3)⟩, fun D hD => ?_⟩
    have nDp : D ≠ p := fun z => by rw [z, hp3] at hD; cases hD
    have nDc : D ≠ ca := fun z => by rw [z, g3] at hD; cases hD
    have hHD : H D = none := by
      cases z : H D with
      | none => rfl
      | some o => have := s3 _ _ (sm _ _ z); rw [hD] at this; cases this
    refine lc_list (xs := cs.map V.int) (fun i H4 => ∃ fs : List Int, fs.length = i ∧ H4 D = some (.lst (fs.map V.int)) ∧ Same H3 H4) ⟨[], rfl, upd_same, same_new hD⟩ (fun i H4 _ ⟨fs, _, _, s⟩ => .inl (.inl (s _ _ g3))) (fun i x H4 hx ⟨fs, hf, hd, s⟩ => ?_) fun H4 ⟨fs, hf, hd, s⟩ => ?_
    · obtain ⟨z, rfl⟩ : ∃ z, x = V.int z := by
        rw [List.getElem?_map] at hx
        cases q2 : cs[i]? with
        | none => rw [q2] at hx; cases hx
        | some z => rw [q2] at hx; exact ⟨z, (Option.some.inj hx).symm⟩
      have hi : i < cs.length := by have := get_lt' hx; simpa using this
      refine ⟨rfl, ?_⟩
      have fin : ∀ k : Int, ∃ acc, H4 D = some (HO.lst acc) ∧ acc.length < sizeLine ∧ ∃ fs : List Int, fs.length = i + 1 ∧ upd H4 D (.lst (acc ++ [V.int k])) D = some (.lst (fs.map V.int)) ∧ Same H3 (upd H4 D (.lst (acc ++ [V.int k]))) := fun k =>
        ⟨_, hd, by rw [List.length_map, hf, sizeLine_eq]; omega, fs ++ [k], by rw [List.length_append, hf]; rfl, by rw [upd_same, List.map_append]; rfl, fun b o e => by rw [upd_ne (ne_of_none e hD)]; exact s _ _ e⟩
      unfold tYes
      simp only [if_true]
      refine ⟨.int z, rfl, 10, 18, rfl, rfl, ⟨by decide, by decide, by decide⟩, z, _, rfl, rfl, _, rfl, ?_⟩
      generalize decide ((10 : Int) ^ (18 : Int).toNat ≤ z) = bb
      cases bb with
      | true => rw [if_pos rfl]; exact ⟨.int z, rfl, fin z⟩
      | false => rw [if_neg Bool.false_ne_true]; exact fin 0
    · have hlen : fs.length = cs.length := by rw [hf, List.length_map]
      have h4p : H4 p = some (.dK []) := s _ _ hp3
      refine ⟨h4p, stDict ⟨p, ca, D⟩ 0, rfl, by show 3 ≤ 15; omega, ?_⟩
      refine q ⟨p, ca, D⟩ _ hHp hca hHD (fun b o e => ?_) ⟨⟨cs, fs, 0, upd_same, ?_, ?_, hne, hlen, by omega, by omega⟩, Ne.symm nDc⟩
      · have e3 := s _ _ (s3 _ _ (sm _ _ e))
        rw [upd_ne fun z => by rw [z, hHp] at e; cases e]
        exact e3
      · show upd H4 p _ ca = _
        rw [upd_ne npc]; exact s _ _ g3
      · show upd H4 p _ D = _
        rw [upd_ne nDp]; exact hd
  -- the first row
  refine ⟨.ref a, rfl, Nat.zero_le _, fun e0 he0 => ?_⟩
  have s1 : Same H (upd H e0 (.lst [])) := same_new he0
  have hS1 := s1.seq hS
  refine ⟨.list (ns.map .int), .list [], .lst hS1 (dp_ints ns), .lst (.inl (.inl upd_same)) .nil, shaped_ints ns, by decide, _, rfl, ?_⟩
  cases ns with
  | nil =>
    refine iteF ⟨by decide, fun ca hca => ?_⟩
    have hHca : H ca = none := by
      cases z : H ca with
      | none => rfl
      | some o => have := s1 _ _ z; rw [hca] at this; cases this
    exact rest ca [0] _ hHca upd_same (s1.trans (same_new hca)) (by simp) (by simp)
  | cons n r =>
    refine iteT ⟨.ref a, rfl, a, _, rfl, .inl hS1, fun ca hca => ?_⟩
    have hHca : H ca = none := by
      cases z : H ca with
      | none => rfl
      | some o => have := s1 _ _ z; rw [hca] at this; cases this
    exact rest ca (n :: r) _ hHca upd_same (s1.trans (same_new hca)) (by simp) hl

/-! ### law -/
/-- law's promise, by what its body comes to -/
def spLaw (K : Frag) (fs : Fns) (gs : List W) (fu m : Nat) (body : SL) : Sp := fun vs H Q _ => ∃ (a : Addr) (ns : List Int), vs = [.ref a] ∧ SqL K H a (ns.map V.int) ∧ ns.length ≤ 1000 ∧ (∀ H', Q (.bl true) H') ∧
  (evSL fs gs fu body ([.no, .sh .tok] ++ List.replicate (m - 2) .no)).wp 0 (fun q _ => q.1 = .rt (W.b true)) (fun _ _ => False)
theorem env_law {T : Stc} {c : StA} {H : Hp} {N : List Str} {a : Addr} (hN : 2 ≤ N.length) (st : StOk c 0 H) : EOk T c 0 [c.sa, c.la] H [c.sa, c.la] H ((L2.start N [.ref a]).set 1 (some (.ref c.sa))) ([.no, .sh .tok] ++ List.replicate (N.length - 2) .no) where
  sub := fun _ h => h
  sO := by simp
  lO := by simp
  cB := fun z => by
    obtain ⟨_, _, _, _, q, _⟩ := st.ex
    rw [z] at q; cases q
  trk := fun b hb => by
    have hb : b = c.sa ∨ b = c.la := by simpa using hb
    rcases hb with rfl | rfl
    · exact st.sa
    · exact st.la
  st := st
  fr := Fr.refl
  len := by
    rw [List.length_set, start_len (by show 1 ≤ _; omega), List.length_append, List.length_replicate]
    show N.length = 2 + _
    omega
  sh := fun i w hw => by
    by_cases hi : i = 1
    · subst hi
      have : some (C.sh .tok) = some (C.sh w) := hw
      cases this
      refine ⟨_, List.getElem?_set_self ?_, .tok⟩
      rw [start_len (by show 1 ≤ _; omega)]
      omega
    · exfalso
      match i, hi with
      | 0, _ => cases hw
      | i + 2, _ =>
        have hw : (List.replicate (N.length - 2) C.no)[i]? = some (C.sh w) := hw
        rw [List.getElem?_replicate] at hw
        split at hw <;> cases hw
  ow := fun i w hw => by
    exfalso
    match i with
    | 0 => cases hw
    | 1 => cases hw
    | i + 2 =>
      have hw : (List.replicate (N.length - 2) C.no)[i]? = some (C.ow w) := hw
      rw [List.getElem?_replicate] at hw
      split at hw <;> cases hw
  inj := fun i j w w' b hw => by
    exfalso
    match i with
    | 0 => cases hw
    | 1 => cases hw
    | i + 2 =>
      have hw : (List.replicate (N.length - 2) C.no)[i]? = some (C.ow w) := hw
      rw [List.getElem?_replicate] at hw
      split at hw <;> cases hw
/-- the reading of law's body -/
theorem law_key {T : Stc} {N : List Str} {fu : Nat} {body : SL} {vs : List V} {H : Hp} {Q : VK} {E : XK} (hN : 2 ≤ N.length) (h : spLaw T.K T.fs T.gs fu N.length body vs H Q E) :
    tSeq (tAsg (tCG (spBegin T.K) E (tCons (tVar 0) tNil)) (gName 1)) (rdSL T E fu body) { nx := fun _ H' => Q .non H', rt := Q } (L2.start N vs) H := by
  obtain ⟨a, ns, rfl, hS, hl, hq, q⟩ := h
  refine ⟨.ref a, ?_, a, ns, rfl, hS, hl, fun c H' n1 n2 n3 sm st => ?_⟩
  · unfold L2.start
    rfl
  · refine ⟨c, 0, [c.sa, c.la], H', [c.sa, c.la], _, env_law hN st, M.wp_mono (fun qq n e => ?_) (fun _ _ z => z.elim) q⟩
    obtain ⟨fl, r⟩ := qq
    have e : fl = .rt (W.b true) := e
    subst e
    intro O' H2 σ' env _ v rv
    have := rv.booli
    subst this
    exact hq H2
end DS

set_option Elab.async false
set_option linter.all false
set_option autoImplicit false
set_option maxRecDepth 100000
set_option maxHeartbeats 4000000
/-! DS27: from law's promise to the row. -/
namespace DS
open PySem PySem.Spec PySem.SeqAt PyProof.Rows L2
/-- law called on a script, in a heap where the script alone is tracked -/
theorem run_tracked {P : Program} {w : World} {K : Frag} {mg mb : Str → Option Value} {k : Nat} {fa a : Addr} {fd : FuncData} {x : Str} {sp : Sp} {s : Shared} {vs : List Value} {H : Hp}
    (kin : K.In s.heap) (glob : s.heap.Ns mainGlobals mg) (blt : s.heap.Ns builtinsNs mb) (boot : ∀ y : Str, y ≠ "__name__" → mb y = bootBuiltins y) (nolim : s.heap.NoLimit) (nogens : s.gens = #[])
    (at_a : s.heap.get? a = some { cls := .type "list", data := .seq vs.toArray }) (room : Room k callerA)
    (F : ∀ base : Heap, K.In base → base.Ns mainGlobals mg → FnG P w K mg base k fa fd [x] sp) (bind : ∀ (s : Shared) (u : Value), BindsTo s fd ⟨[u], []⟩ [(x, u)])
    (only : ∀ b, H b = none ∨ ∃ o xs, H b = some (.frz o (.lst xs))) (ok : HOk P w H s.heap) (isA : ∀ b, H b ≠ none → b = a) (notK : H a ≠ none → K.lookup a = none)
    (want : sp [.ref a] H (fun v _ => v = .bl true) fun _ _ _ => False) :
    codeAny (model P w) callerA (.call (.ref fa) ⟨[.ref a], []⟩) (fun r s' => r = .ok (.ret (.bool true)) ∧ OldK s.heap s'.heap ∧ s'.os = s.os ∧ AllBare s'.gens) s := by
  have free : ∀ b, b ≠ a → H b = none := by
    intro b hb
    cases hc : H b with
    | none => rfl
    | some u => exact absurd (isA b (by simp [hc])) hb
  have notDict : ∀ {b : Addr} {o : Obj} {es : Array DictEntry} {n : Nat}, s.heap.get? b = some o → o.data = .dict es n → H b = none := by
    intro b o es n h1 h2
    apply free
    rintro rfl
    have := h1.symm.trans at_a
    cases this
    cases h2
  have inBase : ∀ {b : Addr} {m : Str → Option Value}, s.heap.Ns b m → (hidT s.heap H).Ns b m := by
    rintro b m ⟨o, es, n, h1, h2, h3⟩
    exact ⟨o, es, n, hidT_get h1 (notDict h1 h2), h2, h3⟩
  have kBase : K.In (hidT s.heap H) := by
    intro b o h1
    apply hidT_get (kin b o h1)
    cases hc : H b with
    | none => rfl
    | some u =>
      have hb := isA b (by simp [hc])
      subst hb
      have := notK (by simp [hc])
      rw [h1] at this
      cases this
  obtain ⟨mc, l1, l2⟩ := nolim
  have env : Env0 P w K mg (hidT s.heap H) callerA [] s H := by
    constructor
    · rfl
    · exact ⟨kBase, inBase glob, ⟨mb, inBase blt, boot⟩, mc, inBase l1, l2⟩
    · exact fun b o h => of_hidT h
    · exact Nat.le_of_eq (hidT_size s.heap H)
    · trivial
    · intro b hb
      simp [frs] at hb
    · exact ok
    · exact AllBare.of_eq nogens
  have run := (F _ kBase (inBase glob)).run callerA [] s H ⟨[.ref a], []⟩ [.ref a] [.ref a] _ _ room rfl env (bind s (.ref a)) (.cons rfl .nil) want
  refine codeAny_mono run ?_
  intro r s' h
  match r, h with
  | .error e, h =>
    obtain ⟨_, _, _, _, _, _, _, _, _, _, _, _, z⟩ := h
    exact z.elim
  | .ok .next, h => exact False.elim h
  | .ok .brk, h => exact False.elim h
  | .ok .cont, h => exact False.elim h
  | .ok (.ret u), h =>
    obtain ⟨v, H', os, bare, un, ok', rv, hv⟩ := h
    have hv : v = .bl true := hv
    subst hv
    have hu : u = Value.bool true := rv
    subst hu
    refine ⟨rfl, OldK.of_keep ?_, os, bare⟩
    intro b o h1
    rcases only b with h2 | ⟨ob, xs, h2⟩
    · exact un.keep b o h1 h2 (by simp [frs]) (by simp)
    · have h3 := un.frzs b ob (.lst xs) h2
      have g1 := (ok b _ h2).1
      have g2 := (ok' b _ h3).1
      rw [h1] at g1
      cases g1
      exact g2
theorem run_law {P : Program} {w : World} {K : Frag} {mg mb : Str → Option Value} {k : Nat} {fa a : Addr} {fd : FuncData} {x : Str} {sp : Sp} {s : Shared} {vs : List Value} {ns : List Int}
    (kin : K.In s.heap) (glob : s.heap.Ns mainGlobals mg) (blt : s.heap.Ns builtinsNs mb) (boot : ∀ y : Str, y ≠ "__name__" → mb y = bootBuiltins y) (nolim : s.heap.NoLimit) (nogens : s.gens = #[])
    (at_a : s.heap.get? a = some { cls := .type "list", data := .seq vs.toArray }) (hi : IntsAre vs ns) (small : ns.length ≤ sizeLine) (room : Room k callerA)
    (F : ∀ base : Heap, K.In base → base.Ns mainGlobals mg → FnG P w K mg base k fa fd [x] sp) (bind : ∀ (s : Shared) (u : Value), BindsTo s fd ⟨[u], []⟩ [(x, u)])
    (want : ∀ H : Hp, SqL K H a (ns.map V.int) → sp [.ref a] H (fun v _ => v = .bl true) fun _ _ _ => False) :
    codeAny (model P w) callerA (.call (.ref fa) ⟨[.ref a], []⟩) (fun r s' => r = .ok (.ret (.bool true)) ∧ OldK s.heap s'.heap ∧ s'.os = s.os ∧ AllBare s'.gens) s := by
  have vi : Vals (ns.map V.int) vs := vals_ints hi
  by_cases hK : K.lookup a = none
  · -- the script is a new list: tracked as it is
    obtain ⟨H, hH⟩ : ∃ H : Hp, H = fun b => if b = a then some (.frz { cls := .type "list", data := .seq vs.toArray } (.lst (ns.map V.int))) else none := ⟨_, rfl⟩
    have onA : H a = some (.frz { cls := .type "list", data := .seq vs.toArray } (.lst (ns.map V.int))) := by rw [hH]; exact if_pos rfl
    have offA : ∀ b, b ≠ a → H b = none := fun b hb => by rw [hH]; exact if_neg hb
    refine run_tracked (H := H) kin glob blt boot nolim nogens at_a room F bind (fun b => ?_) (fun b u hu => ?_) (fun b hb => ?_) (fun _ => hK) (want H (.inl (.inr ⟨_, onA⟩)))
    · by_cases hb : b = a
      · subst hb; exact .inr ⟨_, _, onA⟩
      · exact .inl (offA b hb)
    · by_cases hb : b = a
      · subst hb
        rw [onA] at hu
        cases hu
        exact ⟨at_a, by rw [List.length_map]; exact small, vs, 0, vi, at_a⟩
      · rw [offA b hb] at hu; cases hu
    · by_cases hc : b = a
      · exact hc
      · exact absurd (offA b hc) hb
  · -- the script is one of the module's own lists
    obtain ⟨o, ho⟩ := Option.ne_none_iff_exists'.mp hK
    have h1 := kin a o ho
    rw [at_a] at h1
    cases h1
    refine run_tracked (H := fun _ => none) kin glob blt boot nolim nogens at_a room F bind (fun b => .inl rfl) (fun b u hu => ?_) (fun b hb => absurd rfl hb) (fun hb => absurd rfl hb) (want _ (.inr ⟨_, vs.toArray, 0, ho, rfl, rfl, rfl, ?_, by simpa using vi⟩))
    · cases hu
    · rw [List.size_toArray, ← vi.length, List.length_map]
      exact small
/-- the row, from law's promise -/
theorem row_of {l : PySem.W.OpenLaw} {n k : Nat} {q : Program} {loose : List Str} {XP : (Str → Option Value) → Heap → Prop} {YP : World → Heap → Prop} {d : DefRec} {K : Params → Frag} {x : Str} {sp : World → Sp}
    (hn : l.most = some n) (hn2 : n ≤ sizeLine) (hdf : d.params.defaults = []) (room : Room k callerA) (hY : ∀ (w : World) (h : Heap), YP w h → (K w.params).In h)
    (F : ∀ (w : World) (mg : Str → Option Value) (fa : Addr) (h : Heap), (K w.params).In h → h.Ns mainGlobals mg → mg d.name = some (.ref fa) →
      ∃ fd : FuncData, (∀ (s : Shared) (u : Value), BindsTo s fd ⟨[u], []⟩ [(x, u)]) ∧ ∀ base : Heap, (K w.params).In base → base.Ns mainGlobals mg → FnG l.prog w (K w.params) mg base k fa fd [x] (sp w))
    (want : ∀ (w : World) (H : Hp) (a : Addr) (ns : List Int), ns.length ≤ n → SqL (K w.params) H a (ns.map V.int) → sp w [.ref a] H (fun v _ => v = .bl true) fun _ _ _ => False) :
    PySem.W.WalkO q loose XP YP l.row.toRowW d [] (fun f vs => PySem.call f vs) :=
  Att.attach_call hn hdf fun w s₀ s₁ mg mb fa o pm cd doc a vs ns G Y ho hd hcd hmg hobj hints hlen hg => by
    have kin := hY w _ Y
    obtain ⟨fd, bind, prom⟩ := F w mg fa _ kin G.T.g hmg
    exact run_law kin G.T.g G.T.b G.T.builtins G.T.nolimit hg hobj hints (Nat.le_trans hlen hn2) room prom bind fun H hS => want w H a ns hlen hS
end DS

set_option Elab.async false
set_option linter.all false
set_option autoImplicit false
set_option maxRecDepth 100000
set_option maxHeartbeats 4000000
/-! DS28: defs walked by hand; what the top wrote. -/
namespace DS
open PySem PySem.Spec PySem.SeqAt PyProof.Rows L2
/-- a def as the top wrote it -/
structure DefAt (K : Frag) (x : Str) (st : Stmt) (f : Addr) : Prop where
  ex : ∃ (oc : Value) (od : Option Addr) (kV doc pm : Value) (an : Option Addr) (cdv ct : Value) (osl : Array (Option Value)), PySem.W.nsIn K mainGlobals x = some (some (.ref f)) ∧
    K.lookup f = some ⟨oc, od, .func (PySem.W.fnOf x x (defArgs st) (defBody st) (defScope st) .none kV doc pm an cdv ct), osl⟩ ∧ PySem.W.codeIn K cdv x = true ∧ PySem.W.keepIn K (.ref f) = true
theorem DefAt.fn {K : Frag} {x : Str} {st : Stmt} {f : Addr} (d : DefAt K x st f) : ∃ fd, L2.Fun K x x st f fd ∧ PySem.W.nsIn K mainGlobals x = some (some (.ref f)) := by
  obtain ⟨oc, od, kV, doc, pm, an, cdv, ct, osl, h1, h2, h3, h4⟩ := d.ex
  exact ⟨_, fun_mk h2 h3 h4, h1⟩
section
variable {g : Gnd} {names : List Str} {fs : Fns} {k : Nat} {kw : List (Nat × Nat × List Str × List Nat)}
/-- a def by hand -/
theorem tok_hand (tk : TOk (mkT g names fs k) kw) {x : Str} {F : List W → M W} {n : Nat} {fd : FuncData} {ps N : List Str} {st : Stmt} {t : XK → TS} (d : DefK g fs.length x ps st fd) (S : FnScope N ps (defScope st)) (hp : ps.length = n)
    (hps : ∀ (cdv : Value) (A : Around) (outer : List PySem.Env) (s : Shared) (H : Hp) (E : XK), Room k (A.deeper (envOfC x (defScope st) s.heap.objs.size (g.fa fs.length) cdv)) → A.guards = some [] →
      PSs (cxOf (L2.CX g.P g.w) g.P g.w g.K g.mg g.base N x (defScope st) (g.fa fs.length) cdv A outer s H E) (defBody st) (t E))
    (key : ∀ {vs : List V} {H : Hp} {Q : VK} {E : XK}, spM (mkT g names fs k) n F vs H Q E → t E { nx := fun _ H' => Q .non H', rt := Q } (L2.start N vs) H)
    (ha : ∀ ws N Q E, (F ws).wp N Q E → ws.length = n) (hkw : ∀ q ∈ kw, q.1 = fs.length → KwOk g.K fd ps q.2.1 q.2.2.1 q.2.2.2) : TOk (mkT g (names ++ [x]) (fs ++ [F]) (k + 1)) kw := by
  refine tok_step tk d hp (Nat.le_succ k) ?_ ha hkw
  exact fnG_of d.fn S (fun vs H Q E h => by rw [hp]; exact h.1) fun cdv A outer s H vs Q E room gd h => ⟨_, hps cdv A outer s H E room gd, key h⟩
theorem tok_mono {k' : Nat} (tk : TOk (mkT g names fs k) kw) (h : k ≤ k') : TOk (mkT g names fs k') kw where
  fns := fun i x hx => by
    obtain ⟨F, n, fd, ps, h1, h2, h3, h4, h5, h6, h7, h8⟩ := tk.fns i x hx
    exact ⟨F, n, fd, ps, h1, h2, h3, h4, h5, h6.mono h, h7, h8⟩
  gls := tk.gls
  bn := tk.bn
  ln := tk.ln
/-- law's promise -/
theorem law_fnG (tk : TOk (mkT g names fs k) kw) {ct : Ct} {fB fL : Addr} {fdB fdL : FuncData} {NB : List Str} {x y : Str} {stB stL : Stmt} {fu : Nat} {body : SL} (eB : L2.Fun g.K "_law_begin" "_law_begin" stB fB fdB) (sB : FnScope NB [y] (defScope stB)) (hN : NB.length = 3)
    (pB : ∀ (cdv : Value) (A : Around) (outer : List PySem.Env) (s : Shared) (H : Hp) (E : XK), Room k (A.deeper (envOfC "_law_begin" (defScope stB) s.heap.objs.size fB cdv)) → A.guards = some [] →
      PSs (cxOf (L2.CX g.P g.w) g.P g.w g.K g.mg g.base NB "_law_begin" (defScope stB) fB cdv A outer s H E) (defBody stB) (beginTS g.K))
    (eL : L2.Fun g.K "law" "law" stL fL fdL) (sL : FnScope ct.N [x] (defScope stL)) (h2 : 2 ≤ ct.N.length) (hc : ct.fn = names ∧ ct.gn = g.gn ∧ ct.kw = kw) (chk : chkSL ct (defScope stL) (fun _ => true) body (defBody stL).tail = true)
    (pL : FnG g.P g.w g.K g.mg g.base (k + 1) fB fdB [y] (spBegin g.K) → ∀ (cdv : Value) (A : Around) (outer : List PySem.Env) (s : Shared) (H : Hp) (E : XK) (t : TS), Room (k + 1) (A.deeper (envOfC "law" (defScope stL) s.heap.objs.size fL cdv)) → A.guards = some [] →
      XSt (mkT g names fs (k + 1)) ct.N (defScope stL) (fun _ => true) E (cxOf (L2.CX g.P g.w) g.P g.w g.K g.mg g.base ct.N "law" (defScope stL) fL cdv A outer s H E) →
      PSs (cxOf (L2.CX g.P g.w) g.P g.w g.K g.mg g.base ct.N "law" (defScope stL) fL cdv A outer s H E) (defBody stL).tail t →
      PSs (cxOf (L2.CX g.P g.w) g.P g.w g.K g.mg g.base ct.N "law" (defScope stL) fL cdv A outer s H E) (defBody stL) (tSeq (tAsg (tCG (spBegin g.K) E (tCons (tVar 0) tNil)) (gName 1)) t)) :
    FnG g.P g.w g.K g.mg g.base (k + 2) fL fdL [x] (spLaw g.K fs g.gs fu ct.N.length body) := by
  have GB : FnG g.P g.w g.K g.mg g.base (k + 1) fB fdB [y] (spBegin g.K) := fnG_of eB sB (fun vs H Q E h => by obtain ⟨a, ns, rfl, _⟩ := h; rfl) fun cdv A outer s H vs Q E room gd h => by
    refine ⟨_, pB cdv A outer s H E room gd, ?_⟩
    have r := begin_key h
    obtain ⟨a, ns, rfl, _⟩ := h
    have e : L2.start NB [V.ref a] = L2.start ["s", "c", "i"] [V.ref a] := by unfold L2.start; rw [hN]; rfl
    rw [e]
    exact r
  have tk1 := tok_mono tk (Nat.le_succ k)
  refine fnG_of eL sL (fun vs H Q E h => by obtain ⟨a, ns, rfl, _⟩ := h; rfl) fun cdv A outer s H vs Q E room gd h => ?_
  have xs := xst_def (T := mkT g names fs (k + 1)) (qual := "law") (f := fL) (cdv := cdv) (outer := outer) (s := s) (H := H) (E := E) sL room gd
  have hs := sSL (T := mkT g names fs (k + 1)) (ct := ct) (fu := fu) (by rw [hc.2.2]; exact tk1) hc.1 hc.2.1 xs body _ chk
  exact ⟨_, pL GB cdv A outer s H E _ room gd xs hs, law_key (T := mkT g names fs (k + 1)) h2 h⟩
end
end DS

set_option Elab.async false
set_option linter.all false
/-! PB: the program's defs in the small language, printed by gen.py. -/
namespace DS
/-- is_from: value, low, high -/
def PB_is_from : SL := (.cons (.ret (.bop true (.cons (.isi (.v 0) .int) (.cons (.not (.isi (.v 0) .bool)) (.cons (.chain .le .le (.v 1) (.v 0) (.v 2)) .nil))))) .nil)
/-- is_set: value, most, item, near, far -/
def PB_is_set (i_is_from : Nat) : SL := (.cons (.ite (.bop false (.cons (.not (.isi (.v 0) .tuple)) (.cons (.cmp .gt (.b1 .len (.comp (.n 2) (.of (.v 0)) (.cons (.not (.call i_is_from (.cons (.v 2) (.cons (.int 0) (.cons (.v 1) .nil))))) .nil) (.int 1))) (.int 0)) .nil))) (.cons (.ret (.bl false)) .nil) .nil) (.cons (.ret (.cmp .eq (.b1 .len (.comp (.t (.cons (.n 3) (.cons (.n 4) .nil))) (.zip (.v 0) (.sl (.v 0) (.cons (.int 1) .nil) .nil)) (.cons (.cmp .ge (.v 3) (.v 4)) .nil) (.int 1))) (.int 0))) .nil))
/-- is_arrow: count, value -/
def PB_is_arrow (i_is_from : Nat) : SL := (.cons (.ite (.bop false (.cons (.not (.isi (.v 1) .tuple)) (.cons (.cmp .ne (.b1 .len (.v 1)) (.int 2)) (.cons (.not (.call i_is_from (.cons (.ix (.v 1) (.int 0)) (.cons (.int 0) (.cons (.bin .sub (.v 0) (.int 1)) .nil))))) .nil)))) (.cons (.ret (.bl false)) .nil) .nil) (.cons (.ret (.call i_is_from (.cons (.ix (.v 1) (.int 1)) (.cons (.bin .add (.ix (.v 1) (.int 0)) (.int 1)) (.cons (.bin .sub (.v 0) (.int 1)) .nil))))) .nil))
/-- is_cause: count, value -/
def PB_is_cause (i_is_set : Nat) : SL := (.cons (.ret (.bop true (.cons (.call i_is_set (.cons (.v 1) (.cons (.bin .sub (.v 0) (.int 1)) .nil))) (.cons (.cmp .gt (.b1 .len (.v 1)) (.int 1)) .nil)))) .nil)
/-- check_items: count, value, place, judge, at, item -/
def PB_check_items : SL := (.cons (.forr (.t (.cons (.n 4) (.cons (.n 5) .nil))) (.enum (.v 1)) (.cons (.ite (.bop false (.cons (.not (.callv 3 (.cons (.v 0) (.cons (.v 5) .nil)))) (.cons (.bop true (.cons (.cmp .gt (.v 4) (.int 0)) (.cons (.cmp .ge (.ix (.v 1) (.bin .sub (.v 4) (.int 1))) (.v 5)) .nil))) .nil))) (.cons .rse .nil) .nil) .nil)) .nil)
/-- check_drawing: value, count, arrows, causes -/
def PB_check_drawing (i_check_items i_is_cause g_MOST_CAUSES i_is_arrow i_is_from g_MOST_THINGS : Nat) : SL := (.cons (.ite (.bop false (.cons (.not (.isi (.v 0) .tuple)) (.cons (.cmp .ne (.b1 .len (.v 0)) (.int 3)) .nil))) (.cons .rse .nil) .nil) (.cons (.asg (.t (.cons (.n 1) (.cons (.n 2) (.cons (.n 3) .nil)))) (.v 0)) (.cons (.ite (.not (.call i_is_from (.cons (.v 1) (.cons (.int 1) (.cons (.gl g_MOST_THINGS) .nil))))) (.cons .rse .nil) .nil) (.cons (.ite (.not (.isi (.v 2) .tuple)) (.cons .rse .nil) .nil) (.cons (.ex (.call i_check_items (.cons (.v 1) (.cons (.v 2) (.cons (.int 1) (.cons (.fn i_is_arrow) .nil)))))) (.cons (.ite (.bop false (.cons (.not (.isi (.v 3) .tuple)) (.cons (.cmp .gt (.b1 .len (.v 3)) (.gl g_MOST_CAUSES)) .nil))) (.cons .rse .nil) .nil) (.cons (.ex (.call i_check_items (.cons (.v 1) (.cons (.v 3) (.cons (.int 2) (.cons (.fn i_is_cause) .nil)))))) (.cons (.ret (.v 0)) .nil))))))))
/-- check_thing: drawing, value -/
def PB_check_thing (i_is_from : Nat) : SL := (.cons (.ite (.not (.call i_is_from (.cons (.v 1) (.cons (.int 0) (.cons (.bin .sub (.ix (.v 0) (.int 0)) (.int 1)) .nil))))) (.cons .rse .nil) .nil) (.cons (.ret (.v 1)) .nil))
/-- check_lot: drawing, value -/
def PB_check_lot (i_is_set : Nat) : SL := (.cons (.ite (.not (.call i_is_set (.cons (.v 1) (.cons (.bin .sub (.ix (.v 0) (.int 0)) (.int 1)) .nil)))) (.cons .rse .nil) .nil) (.cons (.ret (.v 1)) .nil))
/-- parents_so: drawing, lot, thing, near, far -/
def PB_parents_so : SL := (.cons (.ret (.b1 .tuple (.comp (.t (.cons (.n 3) (.cons (.n 4) .nil))) (.of (.ix (.v 0) (.int 1))) (.cons (.bop true (.cons (.cmp .eq (.v 4) (.v 2)) (.cons (.cmp .isin (.v 3) (.v 1)) .nil))) .nil) (.v 3)))) .nil)
/-- children_so: drawing, lot, thing, near, far -/
def PB_children_so : SL := (.cons (.ret (.b1 .tuple (.comp (.t (.cons (.n 3) (.cons (.n 4) .nil))) (.of (.ix (.v 0) (.int 1))) (.cons (.bop true (.cons (.cmp .eq (.v 3) (.v 2)) (.cons (.cmp .isin (.v 4) (.v 1)) .nil))) .nil) (.v 4)))) .nil)
/-- causes_so: drawing, thing, number, cause -/
def PB_causes_so : SL := (.cons (.ret (.b1 .tuple (.comp (.t (.cons (.n 2) (.cons (.n 3) .nil))) (.enum (.ix (.v 0) (.int 2))) (.cons (.cmp .isin (.v 1) (.v 3)) .nil) (.v 2)))) .nil)
/-- linked_so: drawing, one, other, cause -/
def PB_linked_so : SL := (.cons (.ret (.cmp .gt (.b1 .len (.comp (.n 3) (.of (.ix (.v 0) (.int 2))) (.cons (.bop true (.cons (.cmp .isin (.v 1) (.v 3)) (.cons (.cmp .isin (.v 2) (.v 3)) .nil))) .nil) (.int 1))) (.int 0))) .nil)
/-- need_drawing: drawing -/
def PB_need_drawing (i_check_drawing : Nat) : SL := (.cons (.ret (.call i_check_drawing (.cons (.v 0) .nil))) .nil)
/-- need_lot: drawing, value -/
def PB_need_lot (i_check_lot i_check_drawing : Nat) : SL := (.cons (.ret (.call i_check_lot (.cons (.call i_check_drawing (.cons (.v 0) .nil)) (.cons (.v 1) .nil)))) .nil)
/-- parents_of: drawing, lot, thing -/
def PB_parents_of (i_parents_so i_check_thing i_check_lot i_check_drawing : Nat) : SL := (.cons (.ex (.call i_check_lot (.cons (.call i_check_drawing (.cons (.v 0) .nil)) (.cons (.v 1) .nil)))) (.cons (.ret (.call i_parents_so (.cons (.v 0) (.cons (.v 1) (.cons (.call i_check_thing (.cons (.v 0) (.cons (.v 2) .nil))) .nil))))) .nil))
/-- children_of: drawing, lot, thing -/
def PB_children_of (i_children_so i_check_thing i_check_lot i_check_drawing : Nat) : SL := (.cons (.ex (.call i_check_lot (.cons (.call i_check_drawing (.cons (.v 0) .nil)) (.cons (.v 1) .nil)))) (.cons (.ret (.call i_children_so (.cons (.v 0) (.cons (.v 1) (.cons (.call i_check_thing (.cons (.v 0) (.cons (.v 2) .nil))) .nil))))) .nil))
/-- causes_of: drawing, thing -/
def PB_causes_of (i_causes_so i_check_thing i_check_drawing : Nat) : SL := (.cons (.ret (.call i_causes_so (.cons (.v 0) (.cons (.call i_check_thing (.cons (.call i_check_drawing (.cons (.v 0) .nil)) (.cons (.v 1) .nil))) .nil)))) .nil)
/-- linked: drawing, one, other -/
def PB_linked (i_linked_so i_check_thing i_check_drawing : Nat) : SL := (.cons (.ex (.call i_check_thing (.cons (.call i_check_drawing (.cons (.v 0) .nil)) (.cons (.v 1) .nil)))) (.cons (.ite (.cmp .eq (.call i_check_thing (.cons (.v 0) (.cons (.v 2) .nil))) (.v 1)) (.cons .rse .nil) .nil) (.cons (.ret (.call i_linked_so (.cons (.v 0) (.cons (.v 1) (.cons (.v 2) .nil))))) .nil)))
/-- is_within: lot, some, thing -/
def PB_is_within : SL := (.cons (.ret (.cmp .eq (.b1 .len (.comp (.n 2) (.of (.v 1)) (.cons (.cmp .notin (.v 2) (.v 0)) .nil) (.int 1))) (.int 0))) .nil)
/-- check_within: drawing, lot, value -/
def PB_check_within (i_is_within i_check_lot : Nat) : SL := (.cons (.ite (.not (.call i_is_within (.cons (.v 1) (.cons (.call i_check_lot (.cons (.v 0) (.cons (.v 2) .nil))) .nil)))) (.cons .rse .nil) .nil) (.cons (.ret (.v 2)) .nil))
/-- leading_so: drawing, lot, goal, found, thing, child -/
def PB_leading_so (i_children_so : Nat) : SL := (.cons (.asg (.n 3) .dnew) (.cons (.forr (.n 4) (.rev (.v 1)) (.cons (.ite (.bop false (.cons (.cmp .isin (.v 4) (.v 2)) (.cons (.cmp .gt (.b1 .len (.comp (.n 5) (.of (.call i_children_so (.cons (.v 0) (.cons (.v 1) (.cons (.v 4) .nil))))) (.cons (.cmp .isin (.v 5) (.v 3)) .nil) (.int 1))) (.int 0)) .nil))) (.cons (.put 3 (.v 4) (.bl true)) .nil) .nil) .nil)) (.cons (.ret (.b1 .tuple (.b1 .sorted (.v 3)))) .nil)))
/-- closed_so: drawing, lot, some, thing -/
def PB_closed_so (i_is_within i_parents_so : Nat) : SL := (.cons (.ret (.cmp .eq (.b1 .len (.comp (.n 3) (.of (.v 2)) (.cons (.not (.call i_is_within (.cons (.v 2) (.cons (.call i_parents_so (.cons (.v 0) (.cons (.v 1) (.cons (.v 3) .nil)))) .nil)))) .nil) (.int 1))) (.int 0))) .nil)
/-- leading: drawing, lot, goal -/
def PB_leading (i_leading_so i_check_within i_check_lot i_check_drawing : Nat) : SL := (.cons (.ex (.call i_check_lot (.cons (.call i_check_drawing (.cons (.v 0) .nil)) (.cons (.v 1) .nil)))) (.cons (.ret (.call i_leading_so (.cons (.v 0) (.cons (.v 1) (.cons (.call i_check_within (.cons (.v 0) (.cons (.v 1) (.cons (.v 2) .nil)))) .nil))))) .nil))
/-- closed_up: drawing, lot, some -/
def PB_closed_up (i_closed_so i_check_within i_check_lot i_check_drawing : Nat) : SL := (.cons (.ex (.call i_check_lot (.cons (.call i_check_drawing (.cons (.v 0) .nil)) (.cons (.v 1) .nil)))) (.cons (.ret (.call i_closed_so (.cons (.v 0) (.cons (.v 1) (.cons (.call i_check_within (.cons (.v 0) (.cons (.v 1) (.cons (.v 2) .nil)))) .nil))))) .nil))
/-- less_so: lot, some, thing -/
def PB_less_so : SL := (.cons (.ret (.b1 .tuple (.comp (.n 2) (.of (.v 0)) (.cons (.cmp .notin (.v 2) (.v 1)) .nil) (.v 2)))) .nil)
/-- room_so: drawing, lot, thing, found, left, here, more, other -/
def PB_room_so (i_linked_so : Nat) : SL := (.cons (.par [3, 4] (.cons (.lst (.cons (.v 2) .nil)) (.cons (.lst (.cons (.v 2) .nil)) .nil))) (.cons (.whl (.cmp .gt (.b1 .len (.v 4)) (.int 0)) (.cons (.popTo 5 4) (.cons (.asg (.n 6) (.comp (.n 7) (.of (.v 1)) (.cons (.bop true (.cons (.cmp .notin (.v 7) (.v 3)) (.cons (.call i_linked_so (.cons (.v 0) (.cons (.v 5) (.cons (.v 7) .nil)))) .nil))) .nil) (.v 7))) (.cons (.ext 3 (.v 6)) (.cons (.ext 4 (.v 6)) .nil))))) (.cons (.ret (.b1 .tuple (.b1 .sorted (.v 3)))) .nil)))
/-- rooms_so: drawing, lot, found, left, room -/
def PB_rooms_so (i_less_so i_room_so : Nat) : SL := (.cons (.par [2, 3] (.cons (.lst .nil) (.cons (.v 1) .nil))) (.cons (.whl (.cmp .gt (.b1 .len (.v 3)) (.int 0)) (.cons (.asg (.n 4) (.call i_room_so (.cons (.v 0) (.cons (.v 3) (.cons (.ix (.v 3) (.int 0)) .nil))))) (.cons (.app 2 (.v 4)) (.cons (.asg (.n 3) (.call i_less_so (.cons (.v 3) (.cons (.v 4) .nil)))) .nil)))) (.cons (.ret (.b1 .tuple (.v 2))) .nil)))
/-- rooms: drawing, lot -/
def PB_rooms (i_rooms_so i_check_lot i_check_drawing : Nat) : SL := (.cons (.ret (.call i_rooms_so (.cons (.v 0) (.cons (.call i_check_lot (.cons (.call i_check_drawing (.cons (.v 0) .nil)) (.cons (.v 1) .nil))) .nil)))) .nil)
/-- every_so: drawing -/
def PB_every_so : SL := (.cons (.ret (.b1 .tuple (.b1 .listRange (.ix (.v 0) (.int 0))))) .nil)
/-- goal_of: drawing, shut, ends, free -/
def PB_goal_of (i_leading_so i_check_within i_less_so i_every_so i_check_lot i_check_drawing : Nat) : SL := (.cons (.ex (.call i_check_lot (.cons (.call i_check_drawing (.cons (.v 0) .nil)) (.cons (.v 1) .nil)))) (.cons (.asg (.n 3) (.call i_less_so (.cons (.call i_every_so (.cons (.v 0) .nil)) (.cons (.v 1) .nil)))) (.cons (.ret (.call i_leading_so (.cons (.v 0) (.cons (.v 3) (.cons (.call i_check_within (.cons (.v 0) (.cons (.v 3) (.cons (.v 2) .nil)))) .nil))))) .nil)))
/-- check_question: value, drawing, tried, put, seen, asked, place, thing -/
def PB_check_question (i_is_within i_is_set i_check_drawing : Nat) : SL := (.cons (.ite (.bop false (.cons (.not (.isi (.v 0) .tuple)) (.cons (.cmp .ne (.b1 .len (.v 0)) (.int 5)) .nil))) (.cons .rse .nil) .nil) (.cons (.asg (.t (.cons (.n 1) (.cons (.n 2) (.cons (.n 3) (.cons (.n 4) (.cons (.n 5) .nil)))))) (.v 0)) (.cons (.ex (.call i_check_drawing (.cons (.v 1) .nil))) (.cons (.forr (.n 6) (.of (.tup (.cons (.int 1) (.cons (.int 2) (.cons (.int 3) (.cons (.int 4) .nil)))))) (.cons (.ite (.bop false (.cons (.not (.call i_is_set (.cons (.ix (.v 0) (.v 6)) (.cons (.bin .sub (.ix (.v 1) (.int 0)) (.int 1)) .nil)))) (.cons (.bop true (.cons (.cmp .eq (.v 6) (.int 4)) (.cons (.cmp .eq (.b1 .len (.v 5)) (.int 0)) .nil))) .nil))) (.cons .rse .nil) .nil) .nil)) (.cons (.ite (.not (.call i_is_within (.cons (.v 3) (.cons (.v 2) .nil)))) (.cons .rse .nil) .nil) (.cons (.ite (.cmp .gt (.b1 .len (.comp (.n 7) (.of (.v 4)) (.cons (.cmp .isin (.v 7) (.v 3)) .nil) (.int 1))) (.int 0)) (.cons .rse .nil) .nil) (.cons (.ite (.cmp .gt (.b1 .len (.comp (.n 7) (.of (.v 5)) (.cons (.bop false (.cons (.cmp .isin (.v 7) (.v 3)) (.cons (.cmp .isin (.v 7) (.v 4)) .nil))) .nil) (.int 1))) (.int 0)) (.cons .rse .nil) .nil) (.cons (.ret (.v 0)) .nil))))))))
/-- item_step: stack, word, inner -/
def PB_item_step (g_ITEMS i_wanted_by i_is_numeral : Nat) : SL := (.cons (.asg (.n 2) (.sl (.ix (.v 0) (.neg (.int 1))) .nil (.cons (.neg (.int 1)) .nil))) (.cons (.ite (.cmp .eq (.v 1) (.str ")")) (.cons (.ret (.sl (.v 0) .nil (.cons (.neg (.int 1)) .nil))) .nil) .nil) (.cons (.ite (.cmp .eq (.v 2) (.str "N")) (.cons (.ret (.ite (.call i_is_numeral (.cons (.v 1) .nil)) (.v 0) .non)) .nil) .nil) (.cons (.ret (.ite (.cmp .isin (.v 1) (.ix (.gl g_ITEMS) (.v 2))) (.bin .add (.v 0) (.call i_wanted_by (.cons (.v 1) .nil))) .non)) .nil))))
/-- word_step: stack, word, top, rest -/
def PB_word_step (i_wanted_by g_ITEMS i_item_step i_is_numeral : Nat) : SL := (.cons (.ite (.cmp .eq (.b1 .len (.v 0)) (.int 0)) (.cons (.ret .non) .nil) .nil) (.cons (.par [2, 3] (.cons (.ix (.v 0) (.neg (.int 1))) (.cons (.sl (.v 0) .nil (.cons (.neg (.int 1)) .nil)) .nil))) (.cons (.ite (.cmp .eq (.v 2) (.str "N")) (.cons (.ret (.ite (.call i_is_numeral (.cons (.v 1) .nil)) (.v 3) .non)) .nil) .nil) (.cons (.ite (.cmp .eq (.v 2) (.str "SET")) (.cons (.ret (.ite (.cmp .eq (.v 1) (.str "{")) (.bin .add (.v 3) (.tup (.cons (.str "MEMBER") .nil))) .non)) .nil) .nil) (.cons (.ite (.cmp .eq (.v 2) (.str "MEMBER")) (.cons (.ret (.ite (.cmp .eq (.v 1) (.str "}")) (.v 3) (.ite (.call i_is_numeral (.cons (.v 1) .nil)) (.v 0) .non))) .nil) .nil) (.cons (.ite (.cmp .eq (.ix (.v 2) (.int 0)) (.str "(")) (.cons (.ret (.ite (.cmp .eq (.v 1) (.str "(")) (.bin .add (.v 3) (.tup (.cons (.bin .add (.sl (.v 2) (.cons (.int 1) .nil) .nil) (.str ")")) .nil))) .non)) .nil) .nil) (.cons (.ite (.cmp .eq (.ix (.v 2) (.neg (.int 1))) (.str ")")) (.cons (.ret (.call i_item_step (.cons (.v 0) (.cons (.v 1) .nil)))) .nil) .nil) (.cons (.ite (.cmp .isin (.v 2) (.gl g_ITEMS)) (.cons (.ret (.ite (.cmp .isin (.v 1) (.ix (.gl g_ITEMS) (.v 2))) (.bin .add (.v 3) (.call i_wanted_by (.cons (.v 1) .nil))) .non)) .nil) .nil) (.cons (.ret (.ite (.cmp .eq (.v 1) (.v 2)) (.bin .add (.v 3) (.call i_wanted_by (.cons (.v 2) .nil))) .non)) .nil)))))))))
/-- words_read: text, wanted, placed, end, stack, word, line, number, _line, _number -/
def PB_words_read (i_word_step i_placed_words : Nat) : SL := (.cons (.ite (.not (.isi (.v 0) .str)) (.cons .rse .nil) .nil) (.cons (.asg (.t (.cons (.n 2) (.cons (.n 3) .nil))) (.call i_placed_words (.cons (.v 0) .nil))) (.cons (.asg (.n 4) (.tup (.cons (.v 1) .nil))) (.cons (.forr (.t (.cons (.n 5) (.cons (.n 6) (.cons (.n 7) .nil)))) (.of (.v 2)) (.cons (.asg (.n 4) (.call i_word_step (.cons (.v 4) (.cons (.v 5) .nil)))) (.cons (.ite (.isN (.v 4)) (.cons .rse .nil) .nil) .nil))) (.cons (.ite (.cmp .gt (.b1 .len (.v 4)) (.int 0)) (.cons .rse .nil) .nil) (.cons (.ret (.comp (.t (.cons (.n 5) (.cons (.n 8) (.cons (.n 9) .nil)))) (.of (.v 2)) .nil (.v 5))) .nil))))))
/-- product_so: numbers, found, number -/
def PB_product_so : SL := (.cons (.asg (.n 1) (.int 1)) (.cons (.forr (.n 2) (.of (.v 0)) (.cons (.asg (.n 1) (.bin .mul (.v 1) (.v 2))) .nil)) (.cons (.ret (.v 1)) .nil)))
/-- is_sizes: count, value, item -/
def PB_is_sizes (i_is_from g_MOST_SIZE : Nat) : SL := (.cons (.ite (.bop false (.cons (.not (.isi (.v 1) .tuple)) (.cons (.cmp .ne (.b1 .len (.v 1)) (.v 0)) .nil))) (.cons (.ret (.bl false)) .nil) .nil) (.cons (.ret (.cmp .eq (.b1 .len (.comp (.n 2) (.of (.v 1)) (.cons (.not (.call i_is_from (.cons (.v 2) (.cons (.int 1) (.cons (.gl g_MOST_SIZE) .nil))))) .nil) (.int 1))) (.int 0))) .nil))
/-- is_weights: value, low, high, item -/
def PB_is_weights (i_is_from g_MOST_WEIGHT : Nat) : SL := (.cons (.ite (.bop false (.cons (.not (.isi (.v 0) .tuple)) (.cons (.not (.call i_is_from (.cons (.b1 .len (.v 0)) (.cons (.v 1) (.cons (.v 2) .nil))))) .nil))) (.cons (.ret (.bl false)) .nil) .nil) (.cons (.ret (.bop true (.cons (.cmp .eq (.b1 .len (.comp (.n 3) (.of (.v 0)) (.cons (.not (.call i_is_from (.cons (.v 3) (.cons (.int 0) (.cons (.gl g_MOST_WEIGHT) .nil))))) .nil) (.int 1))) (.int 0)) (.cons (.cmp .gt (.b1 .sum (.v 0)) (.int 0)) .nil)))) .nil))
/-- columns_so: drawing, sizes, hidden, thing, found, parent, cause -/
def PB_columns_so (i_causes_so i_parents_so i_every_so : Nat) : SL := (.cons (.asg (.n 4) (.comp (.n 5) (.of (.call i_parents_so (.cons (.v 0) (.cons (.call i_every_so (.cons (.v 0) .nil)) (.cons (.v 3) .nil))))) .nil (.ix (.v 1) (.v 5)))) (.cons (.ret (.bin .add (.v 4) (.comp (.n 6) (.of (.call i_causes_so (.cons (.v 0) (.cons (.v 3) .nil)))) .nil (.b1 .len (.ix (.v 2) (.v 6)))))) .nil))
/-- check_hidden: drawing, value, at, weights -/
def PB_check_hidden (i_is_weights g_MOST_SIZE : Nat) : SL := (.cons (.ite (.bop false (.cons (.not (.isi (.v 1) .tuple)) (.cons (.cmp .ne (.b1 .len (.v 1)) (.b1 .len (.ix (.v 0) (.int 2)))) .nil))) (.cons .rse .nil) .nil) (.cons (.forr (.t (.cons (.n 2) (.cons (.n 3) .nil))) (.enum (.v 1)) (.cons (.ite (.not (.call i_is_weights (.cons (.v 3) (.cons (.int 1) (.cons (.gl g_MOST_SIZE) .nil))))) (.cons .rse .nil) .nil) .nil)) .nil))
/-- check_tables: drawing, sizes, hidden, value, thing, table, at, weights -/
def PB_check_tables (i_is_weights i_product_so i_columns_so : Nat) : SL := (.cons (.ite (.bop false (.cons (.not (.isi (.v 3) .tuple)) (.cons (.cmp .ne (.b1 .len (.v 3)) (.ix (.v 0) (.int 0))) .nil))) (.cons .rse .nil) .nil) (.cons (.forr (.t (.cons (.n 4) (.cons (.n 5) .nil))) (.enum (.v 3)) (.cons (.ite (.bop false (.cons (.not (.isi (.v 5) .tuple)) (.cons (.cmp .ne (.b1 .len (.v 5)) (.call i_product_so (.cons (.call i_columns_so (.cons (.v 0) (.cons (.v 1) (.cons (.v 2) (.cons (.v 4) .nil))))) .nil))) .nil))) (.cons .rse .nil) .nil) (.cons (.forr (.t (.cons (.n 6) (.cons (.n 7) .nil))) (.enum (.v 5)) (.cons (.ite (.not (.call i_is_weights (.cons (.v 7) (.cons (.ix (.v 1) (.v 4)) (.cons (.ix (.v 1) (.v 4)) .nil))))) (.cons .rse .nil) .nil) .nil)) .nil))) .nil))
/-- check_world: drawing, value, sizes, hidden, tables, weights -/
def PB_check_world (i_check_tables i_product_so g_MOST_ROWS i_check_hidden i_is_sizes : Nat) : SL := (.cons (.ite (.bop false (.cons (.not (.isi (.v 1) .tuple)) (.cons (.cmp .ne (.b1 .len (.v 1)) (.int 3)) .nil))) (.cons .rse .nil) .nil) (.cons (.asg (.t (.cons (.n 2) (.cons (.n 3) (.cons (.n 4) .nil)))) (.v 1)) (.cons (.ite (.not (.call i_is_sizes (.cons (.ix (.v 0) (.int 0)) (.cons (.v 2) .nil)))) (.cons .rse .nil) .nil) (.cons (.ex (.call i_check_hidden (.cons (.v 0) (.cons (.v 3) .nil)))) (.cons (.ite (.cmp .gt (.bin .mul (.call i_product_so (.cons (.v 2) .nil)) (.call i_product_so (.cons (.comp (.n 5) (.of (.v 3)) .nil (.b1 .len (.v 5))) .nil))) (.gl g_MOST_ROWS)) (.cons .rse .nil) .nil) (.cons (.ex (.call i_check_tables (.cons (.v 0) (.cons (.v 2) (.cons (.v 3) (.cons (.v 4) .nil)))))) (.cons (.ret (.v 1)) .nil)))))))
/-- is_row: value, item -/
def PB_is_row (i_is_number : Nat) : SL := (.cons (.ret (.bop true (.cons (.isi (.v 0) .tuple) (.cons (.cmp .eq (.b1 .len (.comp (.n 1) (.of (.v 0)) (.cons (.not (.call i_is_number (.cons (.v 1) .nil))) .nil) (.int 1))) (.int 0)) .nil)))) .nil)
/-- is_table: value, item -/
def PB_is_table (i_is_row : Nat) : SL := (.cons (.ret (.bop true (.cons (.isi (.v 0) .tuple) (.cons (.cmp .eq (.b1 .len (.comp (.n 1) (.of (.v 0)) (.cons (.not (.call i_is_row (.cons (.v 1) .nil))) .nil) (.int 1))) (.int 0)) .nil)))) .nil)
/-- is_step_so: value, kind, part -/
def PB_is_step_so (g_FORMS i_is_number i_is_row g_ITEMS : Nat) : SL := (.cons (.ite (.bop false (.cons (.not (.isi (.v 0) .tuple)) (.cons (.cmp .eq (.b1 .len (.v 0)) (.int 0)) (.cons (.not (.isi (.ix (.v 0) (.int 0)) .str)) .nil)))) (.cons (.ret (.bl false)) .nil) .nil) (.cons (.ite (.bop false (.cons (.cmp .notin (.ix (.v 0) (.int 0)) (.ix (.gl g_ITEMS) (.str "STEP"))) (.cons (.cmp .ne (.b1 .len (.v 0)) (.bin .add (.int 1) (.b1 .len (.ix (.gl g_FORMS) (.ix (.v 0) (.int 0)))))) .nil))) (.cons (.ret (.bl false)) .nil) .nil) (.cons (.forr (.t (.cons (.n 1) (.cons (.n 2) .nil))) (.zip (.ix (.gl g_FORMS) (.ix (.v 0) (.int 0))) (.sl (.v 0) (.cons (.int 1) .nil) .nil)) (.cons (.ite (.not (.ite (.cmp .eq (.v 1) (.str "N")) (.call i_is_number (.cons (.v 2) .nil)) (.call i_is_row (.cons (.v 2) .nil)))) (.cons (.ret (.bl false)) .nil) .nil) .nil)) (.cons (.ret (.bl true)) .nil))))
/-- check_paper_form: value, good, step -/
def PB_check_paper_form (i_is_step_so i_is_row : Nat) : SL := (.cons (.asg (.n 1) (.bop true (.cons (.isi (.v 0) .tuple) (.cons (.cmp .eq (.b1 .len (.v 0)) (.int 2)) (.cons (.call i_is_row (.cons (.ix (.v 0) (.int 0)) .nil)) (.cons (.isi (.ix (.v 0) (.int 1)) .tuple) .nil)))))) (.cons (.ite (.bop false (.cons (.not (.v 1)) (.cons (.cmp .gt (.b1 .len (.comp (.n 2) (.of (.ix (.v 0) (.int 1))) (.cons (.not (.call i_is_step_so (.cons (.v 2) .nil))) .nil) (.int 1))) (.int 0)) .nil))) (.cons .rse .nil) .nil) (.cons (.ret (.v 0)) .nil)))
/-- check_hedge_form: value, part -/
def PB_check_hedge_form (i_is_row : Nat) : SL := (.cons (.ite (.bop false (.cons (.not (.isi (.v 0) .tuple)) (.cons (.cmp .ne (.b1 .len (.v 0)) (.int 3)) (.cons (.cmp .gt (.b1 .len (.comp (.n 1) (.of (.v 0)) (.cons (.not (.call i_is_row (.cons (.v 1) .nil))) .nil) (.int 1))) (.int 0)) .nil)))) (.cons .rse .nil) .nil) (.cons (.ret (.v 0)) .nil))
/-- check_world_form: value, item -/
def PB_check_world_form (i_is_table i_is_row : Nat) : SL := (.cons (.ite (.bop false (.cons (.not (.isi (.v 0) .tuple)) (.cons (.cmp .ne (.b1 .len (.v 0)) (.int 3)) .nil))) (.cons .rse .nil) .nil) (.cons (.ite (.not (.call i_is_row (.cons (.ix (.v 0) (.int 0)) .nil))) (.cons .rse .nil) .nil) (.cons (.ite (.not (.call i_is_table (.cons (.ix (.v 0) (.int 1)) .nil))) (.cons .rse .nil) .nil) (.cons (.ite (.bop false (.cons (.not (.isi (.ix (.v 0) (.int 2)) .tuple)) (.cons (.cmp .gt (.b1 .len (.comp (.n 1) (.of (.ix (.v 0) (.int 2))) (.cons (.not (.call i_is_table (.cons (.v 1) .nil))) .nil) (.int 1))) (.int 0)) .nil))) (.cons .rse .nil) .nil) (.cons (.ret (.v 0)) .nil)))))
/-- parts_words: kinds, parts, words, kind, part -/
def PB_parts_words (i_thing_words : Nat) : SL := (.cons (.asg (.n 2) (.lst .nil)) (.cons (.forr (.t (.cons (.n 3) (.cons (.n 4) .nil))) (.zip (.v 0) (.v 1)) (.cons (.ext 2 (.call i_thing_words (.cons (.v 3) (.cons (.v 4) .nil)))) .nil)) (.cons (.ret (.v 2)) .nil)))
/-- list_words: kind, things, words, thing -/
def PB_list_words (i_thing_words : Nat) : SL := (.cons (.asg (.n 2) (.lst (.cons (.str "(") .nil))) (.cons (.forr (.n 3) (.of (.v 1)) (.cons (.ext 2 (.call i_thing_words (.cons (.v 0) (.cons (.v 3) .nil)))) .nil)) (.cons (.ret (.bin .add (.v 2) (.lst (.cons (.str ")") .nil)))) .nil)))
/-- parts_read: kinds, words, place, found, kind, part -/
def PB_parts_read (i_part_read : Nat) : SL := (.cons (.asg (.n 3) (.lst .nil)) (.cons (.forr (.n 4) (.of (.v 0)) (.cons (.asg (.t (.cons (.n 5) (.cons (.n 2) .nil))) (.call i_part_read (.cons (.v 4) (.cons (.v 1) (.cons (.v 2) .nil))))) (.cons (.app 3 (.v 5)) .nil))) (.cons (.ret (.tup (.cons (.b1 .tuple (.v 3)) (.cons (.v 2) .nil)))) .nil)))
/-- list_read: kind, words, place, found, part -/
def PB_list_read (i_part_read : Nat) : SL := (.cons (.asg (.n 3) (.lst .nil)) (.cons (.whl (.cmp .ne (.ix (.v 1) (.v 2)) (.str ")")) (.cons (.asg (.t (.cons (.n 4) (.cons (.n 2) .nil))) (.call i_part_read (.cons (.v 0) (.cons (.v 1) (.cons (.v 2) .nil))))) (.cons (.app 3 (.v 4)) .nil))) (.cons (.ret (.tup (.cons (.b1 .tuple (.v 3)) (.cons (.bin .add (.v 2) (.int 1)) .nil)))) .nil)))
/-- read_so: text, word -/
def PB_read_so (i_parts_read i_words_read g_FORMS : Nat) : SL := (.cons (.ret (.ix (.call i_parts_read (.cons (.ix (.gl g_FORMS) (.v 1)) (.cons (.call i_words_read (.cons (.v 0) (.cons (.v 1) .nil))) (.cons (.int 1) .nil)))) (.int 0))) .nil)
/-- drawing_text: drawing -/
def PB_drawing_text (i_lined i_check_drawing : Nat) : SL := (.cons (.ret (.call i_lined (.cons (.str "drawing") (.cons (.call i_check_drawing (.cons (.v 0) .nil)) .nil)))) .nil)
/-- read_drawing: text -/
def PB_read_drawing (i_check_drawing i_read_so : Nat) : SL := (.cons (.ret (.call i_check_drawing (.cons (.call i_read_so (.cons (.v 0) (.cons (.str "drawing") .nil))) .nil))) .nil)
/-- question_text: question -/
def PB_question_text (i_lined i_check_question : Nat) : SL := (.cons (.ret (.call i_lined (.cons (.str "question") (.cons (.call i_check_question (.cons (.v 0) .nil)) .nil)))) .nil)
/-- read_question: text -/
def PB_read_question (i_check_question i_read_so : Nat) : SL := (.cons (.ret (.call i_check_question (.cons (.call i_read_so (.cons (.v 0) (.cons (.str "question") .nil))) .nil))) .nil)
/-- paper_text: paper -/
def PB_paper_text (i_lined i_check_paper_form : Nat) : SL := (.cons (.ret (.call i_lined (.cons (.str "paper") (.cons (.call i_check_paper_form (.cons (.v 0) .nil)) .nil)))) .nil)
/-- read_paper: text -/
def PB_read_paper (i_read_so : Nat) : SL := (.cons (.ret (.call i_read_so (.cons (.v 0) (.cons (.str "paper") .nil)))) .nil)
/-- hedge_text: hedge -/
def PB_hedge_text (i_lined i_check_hedge_form : Nat) : SL := (.cons (.ret (.call i_lined (.cons (.str "hedge") (.cons (.call i_check_hedge_form (.cons (.v 0) .nil)) .nil)))) .nil)
/-- read_hedge: text -/
def PB_read_hedge (i_read_so : Nat) : SL := (.cons (.ret (.call i_read_so (.cons (.v 0) (.cons (.str "hedge") .nil)))) .nil)
/-- world_text: world -/
def PB_world_text (i_lined i_check_world_form : Nat) : SL := (.cons (.ret (.call i_lined (.cons (.str "world") (.cons (.call i_check_world_form (.cons (.v 0) .nil)) .nil)))) .nil)
/-- read_world: drawing, text -/
def PB_read_world (i_check_world i_read_so i_check_drawing : Nat) : SL := (.cons (.ex (.call i_check_drawing (.cons (.v 0) .nil))) (.cons (.ret (.call i_check_world (.cons (.v 0) (.cons (.call i_read_so (.cons (.v 1) (.cons (.str "world") .nil))) .nil)))) .nil))
/-- is_whole: value, low -/
def PB_is_whole : SL := (.cons (.ret (.bop true (.cons (.isi (.v 0) .int) (.cons (.not (.isi (.v 0) .bool)) (.cons (.cmp .ge (.v 0) (.v 1)) .nil))))) .nil)
/-- common_so: one, other -/
def PB_common_so : SL := (.cons (.whl (.cmp .gt (.v 1) (.int 0)) (.cons (.par [0, 1] (.cons (.v 1) (.cons (.bin .mod (.v 0) (.v 1)) .nil))) .nil)) (.cons (.ret (.v 0)) .nil))
/-- reduced_so: above, below, common -/
def PB_reduced_so (i_common_so : Nat) : SL := (.cons (.asg (.n 2) (.call i_common_so (.cons (.v 0) (.cons (.v 1) .nil)))) (.cons (.ret (.tup (.cons (.bin .fdiv (.v 0) (.v 2)) (.cons (.bin .fdiv (.v 1) (.v 2)) .nil)))) .nil))
/-- is_fraction: value -/
def PB_is_fraction (i_common_so i_is_whole : Nat) : SL := (.cons (.ite (.bop false (.cons (.not (.isi (.v 0) .tuple)) (.cons (.cmp .ne (.b1 .len (.v 0)) (.int 2)) (.cons (.not (.call i_is_whole (.cons (.ix (.v 0) (.int 0)) (.cons (.int 0) .nil)))) (.cons (.not (.call i_is_whole (.cons (.ix (.v 0) (.int 1)) (.cons (.int 1) .nil)))) .nil))))) (.cons (.ret (.bl false)) .nil) .nil) (.cons (.ret (.cmp .eq (.call i_common_so (.cons (.ix (.v 0) (.int 0)) (.cons (.ix (.v 0) (.int 1)) .nil))) (.int 1))) .nil))
/-- check_fraction: value -/
def PB_check_fraction (i_is_fraction : Nat) : SL := (.cons (.ite (.not (.call i_is_fraction (.cons (.v 0) .nil))) (.cons .rse .nil) .nil) (.cons (.ret (.v 0)) .nil))
/-- plus_so: one, other -/
def PB_plus_so (i_reduced_so : Nat) : SL := (.cons (.ite (.cmp .eq (.ix (.v 0) (.int 1)) (.ix (.v 1) (.int 1))) (.cons (.ret (.call i_reduced_so (.cons (.bin .add (.ix (.v 0) (.int 0)) (.ix (.v 1) (.int 0))) (.cons (.ix (.v 0) (.int 1)) .nil)))) .nil) .nil) (.cons (.ret (.call i_reduced_so (.cons (.bin .add (.bin .mul (.ix (.v 0) (.int 0)) (.ix (.v 1) (.int 1))) (.bin .mul (.ix (.v 1) (.int 0)) (.ix (.v 0) (.int 1)))) (.cons (.bin .mul (.ix (.v 0) (.int 1)) (.ix (.v 1) (.int 1))) .nil)))) .nil))
/-- times_so: one, other -/
def PB_times_so (i_reduced_so : Nat) : SL := (.cons (.ret (.call i_reduced_so (.cons (.bin .mul (.ix (.v 0) (.int 0)) (.ix (.v 1) (.int 0))) (.cons (.bin .mul (.ix (.v 0) (.int 1)) (.ix (.v 1) (.int 1))) .nil)))) .nil)
/-- over_so: one, other -/
def PB_over_so (i_reduced_so : Nat) : SL := (.cons (.ret (.call i_reduced_so (.cons (.bin .mul (.ix (.v 0) (.int 0)) (.ix (.v 1) (.int 1))) (.cons (.bin .mul (.ix (.v 0) (.int 1)) (.ix (.v 1) (.int 0))) .nil)))) .nil)
/-- reduced: above, below -/
def PB_reduced (i_reduced_so i_is_whole : Nat) : SL := (.cons (.ite (.not (.call i_is_whole (.cons (.v 0) (.cons (.int 0) .nil)))) (.cons .rse .nil) .nil) (.cons (.ite (.not (.call i_is_whole (.cons (.v 1) (.cons (.int 1) .nil)))) (.cons .rse .nil) .nil) (.cons (.ret (.call i_reduced_so (.cons (.v 0) (.cons (.v 1) .nil)))) .nil)))
/-- plus: one, other -/
def PB_plus (i_plus_so i_check_fraction : Nat) : SL := (.cons (.ex (.call i_check_fraction (.cons (.v 0) .nil))) (.cons (.ret (.call i_plus_so (.cons (.v 0) (.cons (.call i_check_fraction (.cons (.v 1) .nil)) .nil)))) .nil))
/-- times: one, other -/
def PB_times (i_times_so i_check_fraction : Nat) : SL := (.cons (.ex (.call i_check_fraction (.cons (.v 0) .nil))) (.cons (.ret (.call i_times_so (.cons (.v 0) (.cons (.call i_check_fraction (.cons (.v 1) .nil)) .nil)))) .nil))
/-- over: one, other -/
def PB_over (i_over_so i_check_fraction g_NONE : Nat) : SL := (.cons (.ex (.call i_check_fraction (.cons (.v 0) .nil))) (.cons (.ite (.cmp .eq (.call i_check_fraction (.cons (.v 1) .nil)) (.gl g_NONE)) (.cons .rse .nil) .nil) (.cons (.ret (.call i_over_so (.cons (.v 0) (.cons (.v 1) .nil)))) .nil)))
/-- rows_so: sizes, found, size, more, row, value -/
def PB_rows_so : SL := (.cons (.asg (.n 1) (.lst (.cons (.tup .nil) .nil))) (.cons (.forr (.n 2) (.of (.v 0)) (.cons (.asg (.n 3) (.lst .nil)) (.cons (.forr (.n 4) (.of (.v 1)) (.cons (.ext 3 (.comp (.n 5) (.rng1 (.v 2)) .nil (.bin .add (.v 4) (.tup (.cons (.v 5) .nil))))) .nil)) (.cons (.asg (.n 1) (.v 3)) .nil)))) (.cons (.ret (.v 1)) .nil)))
/-- place_so: sizes, row, found, size, value -/
def PB_place_so : SL := (.cons (.asg (.n 2) (.int 0)) (.cons (.forr (.t (.cons (.n 3) (.cons (.n 4) .nil))) (.zip (.v 0) (.v 1)) (.cons (.asg (.n 2) (.bin .add (.bin .mul (.v 2) (.v 3)) (.v 4))) .nil)) (.cons (.ret (.v 2)) .nil)))
/-- picked_so: row, things, thing -/
def PB_picked_so : SL := (.cons (.ret (.b1 .tuple (.comp (.n 2) (.of (.v 1)) .nil (.ix (.v 0) (.v 2))))) .nil)
/-- frame_so: drawing, world, lot, sizes, hidden, tables, found, thing, parents, causes -/
def PB_frame_so (i_columns_so i_causes_so i_parents_so i_every_so : Nat) : SL := (.cons (.asg (.t (.cons (.n 3) (.cons (.n 4) (.cons (.n 5) .nil)))) (.v 1)) (.cons (.asg (.n 6) (.lst .nil)) (.cons (.forr (.n 7) (.of (.v 2)) (.cons (.par [8, 9] (.cons (.call i_parents_so (.cons (.v 0) (.cons (.call i_every_so (.cons (.v 0) .nil)) (.cons (.v 7) .nil)))) (.cons (.call i_causes_so (.cons (.v 0) (.cons (.v 7) .nil))) .nil))) (.cons (.app 6 (.tup (.cons (.v 7) (.cons (.v 8) (.cons (.v 9) (.cons (.call i_columns_so (.cons (.v 0) (.cons (.v 3) (.cons (.v 4) (.cons (.v 7) .nil))))) (.cons (.ix (.v 5) (.v 7)) .nil))))))) .nil))) (.cons (.ret (.v 6)) .nil))))
/-- way_chance: frame, row, way, above, below, thing, parents, causes, columns, table, weights -/
def PB_way_chance (i_place_so i_picked_so : Nat) : SL := (.cons (.par [3, 4] (.cons (.int 1) (.cons (.int 1) .nil))) (.cons (.forr (.t (.cons (.n 5) (.cons (.n 6) (.cons (.n 7) (.cons (.n 8) (.cons (.n 9) .nil)))))) (.of (.v 0)) (.cons (.asg (.n 10) (.ix (.v 9) (.call i_place_so (.cons (.v 8) (.cons (.bin .add (.call i_picked_so (.cons (.v 1) (.cons (.v 6) .nil))) (.call i_picked_so (.cons (.v 2) (.cons (.v 7) .nil)))) .nil))))) (.cons (.par [3, 4] (.cons (.bin .mul (.v 3) (.ix (.v 10) (.ix (.v 1) (.v 5)))) (.cons (.bin .mul (.v 4) (.b1 .sum (.v 10))) .nil))) .nil))) (.cons (.ret (.tup (.cons (.v 3) (.cons (.v 4) .nil)))) .nil)))
/-- factor_so: drawing, world, lot, sizes, hidden, _tables, ways, at, value, way, weights, whole, frame, found, row, total, weight, above, below -/
def PB_factor_so (i_rows_so i_plus_so i_reduced_so i_way_chance g_NONE i_frame_so i_product_so : Nat) : SL := (.cons (.asg (.t (.cons (.n 3) (.cons (.n 4) (.cons (.n 5) .nil)))) (.v 1)) (.cons (.asg (.n 6) (.comp (.n 9) (.of (.call i_rows_so (.cons (.comp (.n 10) (.of (.v 4)) .nil (.b1 .len (.v 10))) .nil))) .nil (.tup (.cons (.v 9) (.cons (.call i_product_so (.cons (.comp (.t (.cons (.n 7) (.cons (.n 8) .nil))) (.enum (.v 9)) .nil (.ix (.ix (.v 4) (.v 7)) (.v 8))) .nil)) .nil))))) (.cons (.par [11, 12, 13] (.cons (.call i_product_so (.cons (.comp (.n 10) (.of (.v 4)) .nil (.b1 .sum (.v 10))) .nil)) (.cons (.call i_frame_so (.cons (.v 0) (.cons (.v 1) (.cons (.v 2) .nil)))) (.cons (.lst .nil) .nil)))) (.cons (.forr (.n 14) (.of (.call i_rows_so (.cons (.v 3) .nil))) (.cons (.asg (.n 15) (.gl g_NONE)) (.cons (.forr (.t (.cons (.n 9) (.cons (.n 16) .nil))) (.of (.v 6)) (.cons (.asg (.t (.cons (.n 17) (.cons (.n 18) .nil))) (.call i_way_chance (.cons (.v 12) (.cons (.v 14) (.cons (.v 9) .nil))))) (.cons (.ite (.cmp .gt (.bin .mul (.v 16) (.v 17)) (.int 0)) (.cons (.asg (.n 15) (.call i_plus_so (.cons (.v 15) (.cons (.call i_reduced_so (.cons (.bin .mul (.v 16) (.v 17)) (.cons (.bin .mul (.v 11) (.v 18)) .nil))) .nil)))) .nil) .nil) .nil))) (.cons (.app 13 (.v 15)) .nil)))) (.cons (.ret (.b1 .tuple (.v 13))) .nil)))))
/-- check_deed: drawing, world, value, ahead, item -/
def PB_check_deed (i_is_from : Nat) : SL := (.cons (.ite (.not (.isi (.v 2) .tuple)) (.cons .rse .nil) .nil) (.cons (.asg (.n 3) (.neg (.int 1))) (.cons (.forr (.n 4) (.of (.v 2)) (.cons (.ite (.bop false (.cons (.not (.isi (.v 4) .tuple)) (.cons (.cmp .ne (.b1 .len (.v 4)) (.int 2)) (.cons (.not (.call i_is_from (.cons (.ix (.v 4) (.int 0)) (.cons (.bin .add (.v 3) (.int 1)) (.cons (.bin .sub (.ix (.v 0) (.int 0)) (.int 1)) .nil))))) .nil)))) (.cons .rse .nil) .nil) (.cons (.ite (.not (.call i_is_from (.cons (.ix (.v 4) (.int 1)) (.cons (.int 0) (.cons (.bin .sub (.ix (.ix (.v 1) (.int 0)) (.ix (.v 4) (.int 0))) (.int 1)) .nil))))) (.cons .rse .nil) .nil) (.cons (.asg (.n 3) (.ix (.v 4) (.int 0))) .nil)))) (.cons (.ret (.v 2)) .nil))))
/-- need_world: drawing, world -/
def PB_need_world (i_check_world i_check_drawing : Nat) : SL := (.cons (.ret (.call i_check_world (.cons (.call i_check_drawing (.cons (.v 0) .nil)) (.cons (.v 1) .nil)))) .nil)
/-- factor: drawing, world, lot -/
def PB_factor (i_factor_so i_check_lot i_check_world i_check_drawing : Nat) : SL := (.cons (.ex (.call i_check_world (.cons (.call i_check_drawing (.cons (.v 0) .nil)) (.cons (.v 1) .nil)))) (.cons (.ret (.call i_factor_so (.cons (.v 0) (.cons (.v 1) (.cons (.call i_check_lot (.cons (.v 0) (.cons (.v 2) .nil))) .nil))))) .nil))
/-- set_chances: drawing, world, deed, numbers, thing, _value, found, row, number, other, value -/
def PB_set_chances (i_rows_so g_NONE i_factor_so i_less_so i_every_so i_check_deed i_check_world i_check_drawing : Nat) : SL := (.cons (.ex (.call i_check_world (.cons (.call i_check_drawing (.cons (.v 0) .nil)) (.cons (.v 1) .nil)))) (.cons (.ex (.call i_check_deed (.cons (.v 0) (.cons (.v 1) (.cons (.v 2) .nil))))) (.cons (.asg (.n 3) (.call i_factor_so (.cons (.v 0) (.cons (.v 1) (.cons (.call i_less_so (.cons (.call i_every_so (.cons (.v 0) .nil)) (.cons (.comp (.t (.cons (.n 4) (.cons (.n 5) .nil))) (.of (.v 2)) .nil (.v 4)) .nil))) .nil))))) (.cons (.asg (.n 6) (.lst .nil)) (.cons (.forr (.t (.cons (.n 7) (.cons (.n 8) .nil))) (.zip (.call i_rows_so (.cons (.ix (.v 1) (.int 0)) .nil)) (.v 3)) (.cons (.asg (.n 9) (.comp (.t (.cons (.n 4) (.cons (.n 10) .nil))) (.of (.v 2)) (.cons (.cmp .ne (.ix (.v 7) (.v 4)) (.v 10)) .nil) (.int 1))) (.cons (.app 6 (.ite (.cmp .eq (.v 9) (.lst .nil)) (.v 8) (.gl g_NONE))) .nil))) (.cons (.ret (.b1 .tuple (.v 6))) .nil))))))
/-- is_open: drawing, world, tried, numbers -/
def PB_is_open (g_NONE i_factor_so i_less_so i_check_lot i_every_so i_check_world i_check_drawing : Nat) : SL := (.cons (.ex (.call i_check_world (.cons (.call i_check_drawing (.cons (.v 0) .nil)) (.cons (.v 1) .nil)))) (.cons (.asg (.n 3) (.call i_factor_so (.cons (.v 0) (.cons (.v 1) (.cons (.call i_less_so (.cons (.call i_every_so (.cons (.v 0) .nil)) (.cons (.call i_check_lot (.cons (.v 0) (.cons (.v 2) .nil))) .nil))) .nil))))) (.cons (.ret (.cmp .notin (.gl g_NONE) (.v 3))) .nil)))
/-- kinds_so: drawing, over, under, near, far, found, number, cause -/
def PB_kinds_so : SL := (.cons (.asg (.n 5) (.lst .nil)) (.cons (.ite (.bop true (.cons (.cmp .isin (.tup (.cons (.v 3) (.cons (.v 4) .nil))) (.ix (.v 0) (.int 1))) (.cons (.cmp .notin (.v 4) (.v 1)) (.cons (.cmp .notin (.v 3) (.v 2)) .nil)))) (.cons (.app 5 (.str "to")) .nil) .nil) (.cons (.ite (.bop true (.cons (.cmp .isin (.tup (.cons (.v 4) (.cons (.v 3) .nil))) (.ix (.v 0) (.int 1))) (.cons (.cmp .notin (.v 3) (.v 1)) (.cons (.cmp .notin (.v 4) (.v 2)) .nil)))) (.cons (.app 5 (.str "from")) .nil) .nil) (.cons (.ite (.bop true (.cons (.cmp .notin (.v 3) (.v 1)) (.cons (.cmp .notin (.v 4) (.v 1)) .nil))) (.cons (.ext 5 (.comp (.t (.cons (.n 6) (.cons (.n 7) .nil))) (.enum (.ix (.v 0) (.int 2))) (.cons (.bop true (.cons (.cmp .isin (.v 3) (.v 7)) (.cons (.cmp .isin (.v 4) (.v 7)) .nil))) .nil) (.v 6))) .nil) .nil) (.cons (.ret (.v 5)) .nil)))))
/-- telling_so: drawing, over, under, seen -/
def PB_telling_so (i_leading_so i_every_so i_cut_so : Nat) : SL := (.cons (.ret (.call i_leading_so (.cons (.call i_cut_so (.cons (.v 0) (.cons (.v 1) (.cons (.v 2) .nil)))) (.cons (.call i_every_so (.cons (.v 0) .nil)) (.cons (.v 3) .nil))))) .nil)
/-- passes: frame, thing, into, kind -/
def PB_passes : SL := (.cons (.ite (.isN (.v 2)) (.cons (.ret (.bl true)) .nil) .nil) (.cons (.ite (.bop true (.cons (.v 2) (.cons (.cmp .ne (.v 3) (.str "to")) .nil))) (.cons (.ret (.cmp .isin (.v 1) (.ix (.v 0) (.str "telling")))) .nil) .nil) (.cons (.ret (.cmp .notin (.v 1) (.ix (.v 0) (.str "seen")))) .nil)))
/-- next_states: frame, state, far, thing, into, found, kind -/
def PB_next_states (i_passes : Nat) : SL := (.cons (.asg (.t (.cons (.n 3) (.cons (.n 4) .nil))) (.v 1)) (.cons (.asg (.n 5) (.lst .nil)) (.cons (.forr (.n 6) (.of (.ix (.ix (.v 0) (.str "kinds")) (.tup (.cons (.v 3) (.cons (.v 2) .nil))))) (.cons (.ite (.bop true (.cons (.call i_passes (.cons (.v 0) (.cons (.v 3) (.cons (.v 4) (.cons (.v 6) .nil))))) (.cons (.cmp .notin (.tup (.cons (.v 2) (.cons (.cmp .ne (.v 6) (.str "from")) .nil))) (.v 5)) .nil))) (.cons (.app 5 (.tup (.cons (.v 2) (.cons (.cmp .ne (.v 6) (.str "from")) .nil)))) .nil) .nil) .nil)) (.cons (.ret (.v 5)) .nil))))
/-- all_states: frame, one, found, thing -/
def PB_all_states : SL := (.cons (.asg (.n 2) (.lst (.cons (.tup (.cons (.v 1) (.cons .non .nil))) .nil))) (.cons (.forr (.n 3) (.of (.ix (.v 0) (.str "things"))) (.cons (.asg (.n 2) (.bin .add (.v 2) (.lst (.cons (.tup (.cons (.v 3) (.cons (.bl true) .nil))) (.cons (.tup (.cons (.v 3) (.cons (.bl false) .nil))) .nil))))) .nil)) (.cons (.ret (.v 2)) .nil)))
/-- layer_so: frame, states, ahead, found, state, far, more -/
def PB_layer_so (i_next_states : Nat) : SL := (.cons (.asg (.n 3) .dnew) (.cons (.forr (.n 4) (.of (.v 1)) (.cons (.forr (.n 5) (.of (.ix (.v 0) (.str "things"))) (.cons (.ite (.cmp .gt (.b1 .len (.comp (.n 6) (.of (.call i_next_states (.cons (.v 0) (.cons (.v 4) (.cons (.v 5) .nil))))) (.cons (.cmp .isin (.v 6) (.v 2)) .nil) (.int 1))) (.int 0)) (.cons (.put 3 (.v 4) (.bl true)) .nil) .nil) .nil)) .nil)) (.cons (.ret (.v 3)) .nil)))
/-- least_next: frame, states, ahead, far, more, state, here -/
def PB_least_next (i_next_states : Nat) : SL := (.cons (.forr (.n 3) (.of (.ix (.v 0) (.str "things"))) (.cons (.asg (.n 4) (.lst .nil)) (.cons (.forr (.n 5) (.of (.v 1)) (.cons (.ext 4 (.comp (.n 6) (.of (.call i_next_states (.cons (.v 0) (.cons (.v 5) (.cons (.v 3) .nil))))) (.cons (.bop true (.cons (.cmp .isin (.v 6) (.v 2)) (.cons (.cmp .notin (.v 6) (.v 4)) .nil))) .nil) (.v 6))) .nil)) (.cons (.ite (.cmp .gt (.b1 .len (.v 4)) (.int 0)) (.cons (.ret (.tup (.cons (.v 3) (.cons (.v 4) .nil)))) .nil) .nil) .nil)))) (.cons (.ret (.tup (.cons .non (.cons (.lst .nil) .nil)))) .nil))
/-- road_so: drawing, over, under, one, others, seen, frame, layers, things -/
def PB_road_so (i_least_kinds i_least_things i_layers_so i_frame_so : Nat) : SL := (.cons (.asg (.n 6) (.call i_frame_so (.cons (.v 0) (.cons (.v 1) (.cons (.v 2) (.cons (.v 5) .nil)))))) (.cons (.asg (.n 7) (.call i_layers_so (.cons (.v 6) (.cons (.v 3) (.cons (.v 4) .nil))))) (.cons (.ite (.isN (.v 7)) (.cons (.ret .non) .nil) .nil) (.cons (.asg (.n 8) (.call i_least_things (.cons (.v 6) (.cons (.v 3) (.cons (.v 7) .nil))))) (.cons (.ret (.tup (.cons (.v 8) (.cons (.call i_least_kinds (.cons (.v 6) (.cons (.v 8) .nil))) .nil)))) .nil)))))
/-- check_cut: drawing, over, under -/
def PB_check_cut (i_check_lot i_check_drawing : Nat) : SL := (.cons (.ex (.call i_check_lot (.cons (.call i_check_drawing (.cons (.v 0) .nil)) (.cons (.v 1) .nil)))) (.cons (.ex (.call i_check_lot (.cons (.v 0) (.cons (.v 2) .nil)))) .nil))
/-- check_ends: drawing, over, under, one, others, seen, thing -/
def PB_check_ends (i_check_lot i_check_thing i_check_cut : Nat) : SL := (.cons (.ex (.call i_check_cut (.cons (.v 0) (.cons (.v 1) (.cons (.v 2) .nil))))) (.cons (.ex (.call i_check_thing (.cons (.v 0) (.cons (.v 3) .nil)))) (.cons (.ite (.bop false (.cons (.cmp .eq (.b1 .len (.call i_check_lot (.cons (.v 0) (.cons (.v 4) .nil)))) (.int 0)) (.cons (.cmp .isin (.v 3) (.v 4)) .nil))) (.cons .rse .nil) .nil) (.cons (.ite (.cmp .gt (.b1 .len (.comp (.n 6) (.of (.call i_check_lot (.cons (.v 0) (.cons (.v 5) .nil)))) (.cons (.bop false (.cons (.cmp .eq (.v 6) (.v 3)) (.cons (.cmp .isin (.v 6) (.v 4)) .nil))) .nil) (.int 1))) (.int 0)) (.cons .rse .nil) .nil) .nil))))
/-- cut_drawing: drawing, over, under -/
def PB_cut_drawing (i_cut_so i_check_cut : Nat) : SL := (.cons (.ex (.call i_check_cut (.cons (.v 0) (.cons (.v 1) (.cons (.v 2) .nil))))) (.cons (.ret (.call i_cut_so (.cons (.v 0) (.cons (.v 1) (.cons (.v 2) .nil))))) .nil))
/-- open_road: drawing, over, under, one, others, seen, found -/
def PB_open_road (i_road_so i_check_ends : Nat) : SL := (.cons (.ex (.call i_check_ends (.cons (.v 0) (.cons (.v 1) (.cons (.v 2) (.cons (.v 3) (.cons (.v 4) (.cons (.v 5) .nil)))))))) (.cons (.asg (.n 6) (.call i_road_so (.cons (.v 0) (.cons (.v 1) (.cons (.v 2) (.cons (.v 3) (.cons (.v 4) (.cons (.v 5) .nil)))))))) (.cons (.ite (.isN (.v 6)) (.cons .rse .nil) .nil) (.cons (.ret (.v 6)) .nil))))
/-- shut: drawing, over, under, one, others, seen -/
def PB_shut (i_road_so i_check_ends : Nat) : SL := (.cons (.ex (.call i_check_ends (.cons (.v 0) (.cons (.v 1) (.cons (.v 2) (.cons (.v 3) (.cons (.v 4) (.cons (.v 5) .nil)))))))) (.cons (.ret (.isN (.call i_road_so (.cons (.v 0) (.cons (.v 1) (.cons (.v 2) (.cons (.v 3) (.cons (.v 4) (.cons (.v 5) .nil))))))))) .nil))
/-- is_open_road: drawing, over, under, one, others, seen, value -/
def PB_is_open_road (i_is_open_so i_check_ends : Nat) : SL := (.cons (.ex (.call i_check_ends (.cons (.v 0) (.cons (.v 1) (.cons (.v 2) (.cons (.v 3) (.cons (.v 4) (.cons (.v 5) .nil)))))))) (.cons (.ret (.call i_is_open_so (.cons (.v 0) (.cons (.v 1) (.cons (.v 2) (.cons (.v 3) (.cons (.v 4) (.cons (.v 5) (.cons (.v 6) .nil))))))))) .nil))
/-- line_so: frame, row, way, bits, sums, source, sources, _noise, noises, _sources, noise, value -/
def PB_line_so (i_weight_so i_source_bit : Nat) : SL := (.cons (.asg (.n 4) (.comp (.t (.cons (.n 6) (.cons (.n 7) .nil))) (.of (.v 3)) .nil (.bin .mod (.b1 .sum (.comp (.n 5) (.of (.v 6)) .nil (.call i_source_bit (.cons (.v 0) (.cons (.v 1) (.cons (.v 2) (.cons (.v 5) .nil))))))) (.int 2)))) (.cons (.asg (.n 8) (.comp (.t (.cons (.n 9) (.cons (.n 10) .nil))) (.of (.v 3)) .nil (.v 10))) (.cons (.ret (.b1 .tuple (.comp (.n 11) (.rng1 (.bin .shl (.int 1) (.b1 .len (.v 3)))) .nil (.call i_weight_so (.cons (.v 11) (.cons (.b1 .len (.v 3)) (.cons (.v 4) (.cons (.v 8) .nil)))))))) .nil)))
/-- comes_so: things, kinds, at, found -/
def PB_comes_so : SL := (.cons (.asg (.n 3) (.lst .nil)) (.cons (.ite (.bop true (.cons (.cmp .gt (.v 2) (.int 0)) (.cons (.cmp .ne (.ix (.v 1) (.bin .sub (.v 2) (.int 1))) (.str "from")) .nil))) (.cons (.app 3 (.ite (.cmp .eq (.ix (.v 1) (.bin .sub (.v 2) (.int 1))) (.str "to")) (.tup (.cons (.str "thing") (.cons (.ix (.v 0) (.bin .sub (.v 2) (.int 1))) .nil))) (.tup (.cons (.str "cause") (.cons (.ix (.v 1) (.bin .sub (.v 2) (.int 1))) .nil))))) .nil) .nil) (.cons (.ite (.bop true (.cons (.cmp .lt (.v 2) (.b1 .len (.v 1))) (.cons (.cmp .ne (.ix (.v 1) (.v 2)) (.str "to")) .nil))) (.cons (.app 3 (.ite (.cmp .eq (.ix (.v 1) (.v 2)) (.str "from")) (.tup (.cons (.str "thing") (.cons (.ix (.v 0) (.bin .add (.v 2) (.int 1))) .nil))) (.tup (.cons (.str "cause") (.cons (.ix (.v 1) (.v 2)) .nil))))) .nil) .nil) (.cons (.ret (.v 3)) .nil))))
/-- is_above: cut, thing, lot, far -/
def PB_is_above (i_children_so i_every_so : Nat) : SL := (.cons (.ret (.cmp .gt (.b1 .len (.comp (.n 3) (.of (.call i_children_so (.cons (.v 0) (.cons (.call i_every_so (.cons (.v 0) .nil)) (.cons (.v 1) .nil))))) (.cons (.cmp .isin (.v 3) (.v 2)) .nil) (.int 1))) (.int 0))) .nil)
/-- hanging_so: drawing, over, under, one, others, seen, road, cut, kinds, kind, coins, bits -/
def PB_hanging_so (i_built_so i_road_bits i_cause_so i_cut_so i_road_so : Nat) : SL := (.cons (.asg (.n 6) (.call i_road_so (.cons (.v 0) (.cons (.v 1) (.cons (.v 2) (.cons (.v 3) (.cons (.v 4) (.cons (.v 5) .nil)))))))) (.cons (.ite (.isN (.v 6)) (.cons (.ret .non) .nil) .nil) (.cons (.asg (.n 7) (.call i_cut_so (.cons (.v 0) (.cons (.v 1) (.cons (.v 2) .nil))))) (.cons (.asg (.n 8) (.b1 .tuple (.comp (.n 9) (.of (.ix (.v 6) (.int 1))) .nil (.ite (.isi (.v 9) .str) (.v 9) (.call i_cause_so (.cons (.v 0) (.cons (.v 1) (.cons (.v 7) (.cons (.v 9) .nil))))))))) (.cons (.asg (.t (.cons (.n 10) (.cons (.n 11) .nil))) (.call i_road_bits (.cons (.v 7) (.cons (.v 5) (.cons (.ix (.v 6) (.int 0)) (.cons (.v 8) .nil)))))) (.cons (.ret (.call i_built_so (.cons (.v 7) (.cons (.v 10) (.cons (.v 11) .nil))))) .nil))))))
/-- hang_so: sizes, numbers, one, others, seen, things, near, far, whole, given, left, right, values, thing, both -/
def PB_hang_so (i_rows_so i_times_so i_values_so i_summed_so : Nat) : SL := (.cons (.asg (.n 5) (.b1 .tuple (.b1 .sorted (.bin .add (.bin .add (.tup (.cons (.v 2) .nil)) (.v 3)) (.v 4))))) (.cons (.par [6, 7] (.cons (.b1 .tuple (.b1 .sorted (.bin .add (.tup (.cons (.v 2) .nil)) (.v 4)))) (.cons (.b1 .tuple (.b1 .sorted (.bin .add (.v 3) (.v 4)))) .nil))) (.cons (.par [8, 9] (.cons (.call i_summed_so (.cons (.v 0) (.cons (.v 1) (.cons (.v 5) .nil)))) (.cons (.call i_summed_so (.cons (.v 0) (.cons (.v 1) (.cons (.v 4) .nil)))) .nil))) (.cons (.par [10, 11] (.cons (.call i_summed_so (.cons (.v 0) (.cons (.v 1) (.cons (.v 6) .nil)))) (.cons (.call i_summed_so (.cons (.v 0) (.cons (.v 1) (.cons (.v 7) .nil)))) .nil))) (.cons (.forr (.n 12) (.of (.call i_rows_so (.cons (.comp (.n 13) (.of (.v 5)) .nil (.ix (.v 0) (.v 13))) .nil))) (.cons (.asg (.n 14) (.call i_times_so (.cons (.ix (.v 8) (.v 12)) (.cons (.ix (.v 9) (.call i_values_so (.cons (.v 5) (.cons (.v 12) (.cons (.v 4) .nil))))) .nil)))) (.cons (.ite (.cmp .ne (.v 14) (.call i_times_so (.cons (.ix (.v 10) (.call i_values_so (.cons (.v 5) (.cons (.v 12) (.cons (.v 6) .nil))))) (.cons (.ix (.v 11) (.call i_values_so (.cons (.v 5) (.cons (.v 12) (.cons (.v 7) .nil))))) .nil)))) (.cons (.ret (.bl true)) .nil) .nil) .nil))) (.cons (.ret (.bl false)) .nil))))))
/-- hanging: drawing, over, under, one, others, seen, found -/
def PB_hanging (i_hanging_so i_check_ends : Nat) : SL := (.cons (.ex (.call i_check_ends (.cons (.v 0) (.cons (.v 1) (.cons (.v 2) (.cons (.v 3) (.cons (.v 4) (.cons (.v 5) .nil)))))))) (.cons (.asg (.n 6) (.call i_hanging_so (.cons (.v 0) (.cons (.v 1) (.cons (.v 2) (.cons (.v 3) (.cons (.v 4) (.cons (.v 5) .nil)))))))) (.cons (.ite (.isN (.v 6)) (.cons .rse .nil) .nil) (.cons (.ret (.v 6)) .nil))))
/-- goal_so: question, moved, drawing, _tried, put, seen, asked, free -/
def PB_goal_so (i_leading_so i_less_so i_every_so : Nat) : SL := (.cons (.asg (.t (.cons (.n 2) (.cons (.n 3) (.cons (.n 4) (.cons (.n 5) (.cons (.n 6) .nil)))))) (.v 0)) (.cons (.asg (.n 7) (.call i_less_so (.cons (.call i_every_so (.cons (.v 2) .nil)) (.cons (.bin .add (.v 4) (.v 1)) .nil)))) (.cons (.ret (.call i_leading_so (.cons (.v 2) (.cons (.v 7) (.cons (.bin .add (.call i_less_so (.cons (.v 5) (.cons (.v 1) .nil))) (.v 6)) .nil))))) .nil)))
/-- check_moved: question, value -/
def PB_check_moved (i_is_moved : Nat) : SL := (.cons (.ite (.not (.call i_is_moved (.cons (.v 0) (.cons (.v 1) .nil)))) (.cons .rse .nil) .nil) (.cons (.ret (.v 1)) .nil))
/-- goal: question, moved -/
def PB_goal (i_goal_so i_check_moved i_check_question : Nat) : SL := (.cons (.ex (.call i_check_question (.cons (.v 0) .nil))) (.cons (.ret (.call i_goal_so (.cons (.v 0) (.cons (.call i_check_moved (.cons (.v 0) (.cons (.v 1) .nil))) .nil)))) .nil))
/-- things_so: question -/
def PB_things_so : SL := (.cons (.ret (.b1 .tuple (.b1 .sorted (.bin .add (.bin .add (.ix (.v 0) (.int 2)) (.ix (.v 0) (.int 3))) (.ix (.v 0) (.int 4)))))) .nil)
/-- need_question: question -/
def PB_need_question (i_check_question : Nat) : SL := (.cons (.ret (.call i_check_question (.cons (.v 0) .nil))) .nil)
/-- things_of: question -/
def PB_things_of (i_things_so i_check_question : Nat) : SL := (.cons (.ret (.call i_things_so (.cons (.call i_check_question (.cons (.v 0) .nil)) .nil))) .nil)
/-- divided_so: sizes, numbers, things, given, above, below, found, values, key, thing, value -/
def PB_divided_so (i_rows_so i_picked_so i_over_so g_NONE i_summed_so : Nat) : SL := (.cons (.par [4, 5, 6] (.cons (.call i_summed_so (.cons (.v 0) (.cons (.v 1) (.cons (.v 2) .nil)))) (.cons (.call i_summed_so (.cons (.v 0) (.cons (.v 1) (.cons (.v 3) .nil)))) (.cons (.lst .nil) .nil)))) (.cons (.forr (.n 7) (.of (.call i_rows_so (.cons (.call i_picked_so (.cons (.v 0) (.cons (.v 2) .nil))) .nil))) (.cons (.asg (.n 8) (.b1 .tuple (.comp (.t (.cons (.n 9) (.cons (.n 10) .nil))) (.zip (.v 2) (.v 7)) (.cons (.cmp .isin (.v 9) (.v 3)) .nil) (.v 10)))) (.cons (.ite (.cmp .eq (.ix (.v 5) (.v 8)) (.gl g_NONE)) (.cons .rse .nil) .nil) (.cons (.app 6 (.call i_over_so (.cons (.ix (.v 4) (.v 7)) (.cons (.ix (.v 5) (.v 8)) .nil)))) .nil)))) (.cons (.ret (.b1 .tuple (.v 6))) .nil)))
/-- watched_so: question, world -/
def PB_watched_so (i_factor_so i_less_so i_every_so : Nat) : SL := (.cons (.ret (.call i_factor_so (.cons (.ix (.v 0) (.int 0)) (.cons (.v 1) (.cons (.call i_less_so (.cons (.call i_every_so (.cons (.ix (.v 0) (.int 0)) .nil)) (.cons (.ix (.v 0) (.int 1)) .nil))) .nil))))) .nil)
/-- answer_so: question, world, numbers -/
def PB_answer_so (i_divided_so i_things_so i_factor_so i_less_so i_every_so : Nat) : SL := (.cons (.asg (.n 2) (.call i_factor_so (.cons (.ix (.v 0) (.int 0)) (.cons (.v 1) (.cons (.call i_less_so (.cons (.call i_every_so (.cons (.ix (.v 0) (.int 0)) .nil)) (.cons (.ix (.v 0) (.int 2)) .nil))) .nil))))) (.cons (.ret (.call i_divided_so (.cons (.ix (.v 1) (.int 0)) (.cons (.v 2) (.cons (.call i_things_so (.cons (.v 0) .nil)) (.cons (.b1 .tuple (.b1 .sorted (.bin .add (.ix (.v 0) (.int 2)) (.ix (.v 0) (.int 3))))) .nil)))))) .nil))
/-- answer: question, world -/
def PB_answer (i_answer_so i_check_world i_check_question : Nat) : SL := (.cons (.ex (.call i_check_world (.cons (.ix (.call i_check_question (.cons (.v 0) .nil)) (.int 0)) (.cons (.v 1) .nil)))) (.cons (.ret (.call i_answer_so (.cons (.v 0) (.cons (.v 1) .nil)))) .nil))
/-- watched: question, world -/
def PB_watched (i_watched_so i_check_world i_check_question : Nat) : SL := (.cons (.ex (.call i_check_world (.cons (.ix (.call i_check_question (.cons (.v 0) .nil)) (.int 0)) (.cons (.v 1) .nil)))) (.cons (.ret (.call i_watched_so (.cons (.v 0) (.cons (.v 1) .nil)))) .nil))
/-- is_ahead: value, many -/
def PB_is_ahead : SL := (.cons (.ret (.bop true (.cons (.isi (.v 0) .int) (.cons (.not (.isi (.v 0) .bool)) (.cons (.chain .le .lt (.int 0) (.v 0) (.v 1)) .nil))))) .nil)
/-- is_some: question, lot, value -/
def PB_is_some (i_is_within i_is_set : Nat) : SL := (.cons (.ret (.bop true (.cons (.call i_is_set (.cons (.v 2) (.cons (.bin .sub (.ix (.ix (.v 0) (.int 0)) (.int 0)) (.int 1)) .nil))) (.cons (.cmp .gt (.b1 .len (.v 2)) (.int 0)) (.cons (.call i_is_within (.cons (.v 1) (.cons (.v 2) .nil))) .nil))))) .nil)
/-- is_whole_rooms: question, lot, value, room, many, thing -/
def PB_is_whole_rooms (i_rooms_so : Nat) : SL := (.cons (.forr (.n 3) (.of (.call i_rooms_so (.cons (.ix (.v 0) (.int 0)) (.cons (.v 1) .nil)))) (.cons (.asg (.n 4) (.b1 .len (.comp (.n 5) (.of (.v 3)) (.cons (.cmp .isin (.v 5) (.v 2)) .nil) (.int 1)))) (.cons (.ite (.chain .lt .lt (.int 0) (.v 4) (.b1 .len (.v 3))) (.cons (.ret (.bl false)) .nil) .nil) .nil))) (.cons (.ret (.bl true)) .nil))
/-- are_apart: question, one, other, near, far -/
def PB_are_apart (i_linked_so : Nat) : SL := (.cons (.forr (.n 3) (.of (.v 1)) (.cons (.forr (.n 4) (.of (.v 2)) (.cons (.ite (.bop false (.cons (.cmp .eq (.v 3) (.v 4)) (.cons (.call i_linked_so (.cons (.ix (.v 0) (.int 0)) (.cons (.v 3) (.cons (.v 4) .nil)))) .nil))) (.cons (.ret (.bl false)) .nil) .nil) .nil)) .nil)) (.cons (.ret (.bl true)) .nil))
/-- joined_lot: question, lots, places, found, last, place -/
def PB_joined_lot (i_are_apart i_is_ahead : Nat) : SL := (.cons (.ite (.bop false (.cons (.not (.isi (.v 2) .tuple)) (.cons (.cmp .eq (.b1 .len (.v 2)) (.int 0)) .nil))) (.cons (.ret .non) .nil) .nil) (.cons (.par [3, 4] (.cons (.tup .nil) (.cons (.neg (.int 1)) .nil))) (.cons (.forr (.n 5) (.of (.v 2)) (.cons (.ite (.bop false (.cons (.not (.call i_is_ahead (.cons (.v 5) (.cons (.b1 .len (.v 1)) .nil)))) (.cons (.cmp .le (.v 5) (.v 4)) (.cons (.not (.call i_are_apart (.cons (.v 0) (.cons (.v 3) (.cons (.ix (.v 1) (.v 5)) .nil))))) .nil)))) (.cons (.ret .non) .nil) .nil) (.cons (.par [3, 4] (.cons (.bin .add (.v 3) (.ix (.v 1) (.v 5))) (.cons (.v 5) .nil))) .nil))) (.cons (.ret (.b1 .tuple (.b1 .sorted (.v 3)))) .nil))))
/-- step_lot: question, lots, step, lot, some -/
def PB_step_lot (i_is_whole_rooms i_closed_so i_is_some i_is_ahead i_joined_lot i_less_so i_every_so : Nat) : SL := (.cons (.ite (.bop false (.cons (.not (.isi (.v 2) .tuple)) (.cons (.cmp .eq (.b1 .len (.v 2)) (.int 0)) (.cons (.not (.isi (.ix (.v 2) (.int 0)) .str)) .nil)))) (.cons (.ret .non) .nil) .nil) (.cons (.ite (.cmp .eq (.v 2) (.tup (.cons (.str "watched") .nil))) (.cons (.ret (.call i_less_so (.cons (.call i_every_so (.cons (.ix (.v 0) (.int 0)) .nil)) (.cons (.ix (.v 0) (.int 1)) .nil)))) .nil) .nil) (.cons (.ite (.bop true (.cons (.cmp .eq (.ix (.v 2) (.int 0)) (.str "join")) (.cons (.cmp .eq (.b1 .len (.v 2)) (.int 2)) .nil))) (.cons (.ret (.call i_joined_lot (.cons (.v 0) (.cons (.v 1) (.cons (.ix (.v 2) (.int 1)) .nil))))) .nil) .nil) (.cons (.ite (.bop false (.cons (.cmp .notin (.ix (.v 2) (.int 0)) (.tup (.cons (.str "sum") (.cons (.str "part") .nil)))) (.cons (.cmp .ne (.b1 .len (.v 2)) (.int 3)) (.cons (.not (.call i_is_ahead (.cons (.ix (.v 2) (.int 1)) (.cons (.b1 .len (.v 1)) .nil)))) .nil)))) (.cons (.ret .non) .nil) .nil) (.cons (.par [3, 4] (.cons (.ix (.v 1) (.ix (.v 2) (.int 1))) (.cons (.ix (.v 2) (.int 2)) .nil))) (.cons (.ite (.not (.call i_is_some (.cons (.v 0) (.cons (.v 3) (.cons (.v 4) .nil))))) (.cons (.ret .non) .nil) .nil) (.cons (.ite (.cmp .eq (.ix (.v 2) (.int 0)) (.str "sum")) (.cons (.ret (.ite (.call i_closed_so (.cons (.ix (.v 0) (.int 0)) (.cons (.v 3) (.cons (.v 4) .nil)))) (.v 4) .non)) .nil) .nil) (.cons (.ret (.ite (.call i_is_whole_rooms (.cons (.v 0) (.cons (.v 3) (.cons (.v 4) .nil)))) (.v 4) .non)) .nil))))))))
/-- walk_so: question, steps, found, number, step, lot -/
def PB_walk_so (i_step_lot : Nat) : SL := (.cons (.asg (.n 2) (.lst .nil)) (.cons (.forr (.t (.cons (.n 3) (.cons (.n 4) .nil))) (.enum (.v 1)) (.cons (.asg (.n 5) (.call i_step_lot (.cons (.v 0) (.cons (.v 2) (.cons (.v 4) .nil))))) (.cons (.ite (.isN (.v 5)) (.cons (.ret (.tup (.cons (.v 2) (.cons (.v 3) .nil)))) .nil) .nil) (.cons (.app 2 (.v 5)) .nil)))) (.cons (.ret (.tup (.cons (.v 2) (.cons .non .nil)))) .nil)))
/-- is_steps_so: question, value -/
def PB_is_steps_so (i_walk_so g_MOST_STEPS : Nat) : SL := (.cons (.ite (.bop false (.cons (.not (.isi (.v 1) .tuple)) (.cons (.cmp .gt (.b1 .len (.v 1)) (.gl g_MOST_STEPS)) .nil))) (.cons (.ret (.bl false)) .nil) .nil) (.cons (.ret (.isN (.ix (.call i_walk_so (.cons (.v 0) (.cons (.v 1) .nil))) (.int 1)))) .nil))
/-- lots_of: question, steps, found, wrong -/
def PB_lots_of (i_walk_so g_MOST_STEPS i_check_question : Nat) : SL := (.cons (.ex (.call i_check_question (.cons (.v 0) .nil))) (.cons (.ite (.not (.isi (.v 1) .tuple)) (.cons .rse .nil) .nil) (.cons (.ite (.cmp .gt (.b1 .len (.v 1)) (.gl g_MOST_STEPS)) (.cons .rse .nil) .nil) (.cons (.asg (.t (.cons (.n 2) (.cons (.n 3) .nil))) (.call i_walk_so (.cons (.v 0) (.cons (.v 1) .nil)))) (.cons (.ite (.notN (.v 3)) (.cons .rse .nil) .nil) (.cons (.ret (.b1 .tuple (.v 2))) .nil))))))
/-- is_steps: question, value -/
def PB_is_steps (i_is_steps_so i_check_question : Nat) : SL := (.cons (.ret (.call i_is_steps_so (.cons (.call i_check_question (.cons (.v 0) .nil)) (.cons (.v 1) .nil)))) .nil)
/-- may_move_so: question, moved, thing, put, seen, one -/
def PB_may_move_so (i_road_so : Nat) : SL := (.cons (.asg (.n 3) (.b1 .tuple (.b1 .sorted (.bin .add (.ix (.v 0) (.int 2)) (.b1 .tuple (.v 1)))))) (.cons (.asg (.n 4) (.b1 .tuple (.b1 .sorted (.bin .add (.v 3) (.b1 .tuple (.comp (.n 5) (.of (.ix (.v 0) (.int 3))) (.cons (.bop true (.cons (.cmp .ne (.v 5) (.v 2)) (.cons (.cmp .notin (.v 5) (.v 1)) .nil))) .nil) (.v 5))))))) (.cons (.ret (.isN (.call i_road_so (.cons (.ix (.v 0) (.int 0)) (.cons (.v 3) (.cons (.tup (.cons (.v 2) .nil)) (.cons (.v 2) (.cons (.ix (.v 0) (.int 4)) (.cons (.v 4) .nil))))))))) .nil)))
/-- may_move: question, moved, thing -/
def PB_may_move (i_may_move_so i_is_moved i_check_moved i_check_question : Nat) : SL := (.cons (.ex (.call i_check_moved (.cons (.call i_check_question (.cons (.v 0) .nil)) (.cons (.v 1) .nil)))) (.cons (.ite (.bop false (.cons (.not (.call i_is_moved (.cons (.v 0) (.cons (.tup (.cons (.v 2) .nil)) .nil)))) (.cons (.cmp .isin (.v 2) (.v 1)) .nil))) (.cons .rse .nil) .nil) (.cons (.ret (.call i_may_move_so (.cons (.v 0) (.cons (.v 1) (.cons (.v 2) .nil))))) .nil)))
/-- lots_so: question, steps -/
def PB_lots_so (i_walk_so : Nat) : SL := (.cons (.ret (.ix (.call i_walk_so (.cons (.v 0) (.cons (.v 1) .nil))) (.int 0))) .nil)
/-- goal_now: question, moved -/
def PB_goal_now (i_goal_so : Nat) : SL := (.cons (.ret (.call i_goal_so (.cons (.v 0) (.cons (.b1 .tuple (.v 1)) .nil)))) .nil)
/-- are_moved: question, value, at, thing -/
def PB_are_moved (i_may_move_so i_is_moved : Nat) : SL := (.cons (.ite (.not (.call i_is_moved (.cons (.v 0) (.cons (.v 1) .nil)))) (.cons (.ret (.bl false)) .nil) .nil) (.cons (.forr (.t (.cons (.n 2) (.cons (.n 3) .nil))) (.enum (.v 1)) (.cons (.ite (.not (.call i_may_move_so (.cons (.v 0) (.cons (.sl (.v 1) .nil (.cons (.v 2) .nil)) (.cons (.v 3) .nil))))) (.cons (.ret (.bl false)) .nil) .nil) .nil)) (.cons (.ret (.bl true)) .nil)))
/-- is_paper_so: question, value -/
def PB_is_paper_so (i_lots_so i_goal_so i_is_steps_so i_are_moved : Nat) : SL := (.cons (.ite (.bop false (.cons (.not (.isi (.v 1) .tuple)) (.cons (.cmp .ne (.b1 .len (.v 1)) (.int 2)) (.cons (.not (.call i_are_moved (.cons (.v 0) (.cons (.ix (.v 1) (.int 0)) .nil)))) .nil)))) (.cons (.ret (.bl false)) .nil) .nil) (.cons (.ite (.bop false (.cons (.not (.call i_is_steps_so (.cons (.v 0) (.cons (.ix (.v 1) (.int 1)) .nil)))) (.cons (.cmp .eq (.b1 .len (.ix (.v 1) (.int 1))) (.int 0)) .nil))) (.cons (.ret (.bl false)) .nil) .nil) (.cons (.ret (.cmp .eq (.ix (.call i_lots_so (.cons (.v 0) (.cons (.ix (.v 1) (.int 1)) .nil))) (.neg (.int 1))) (.call i_goal_so (.cons (.v 0) (.cons (.ix (.v 1) (.int 0)) .nil))))) .nil)))
/-- is_paper: question, value -/
def PB_is_paper (i_is_paper_so i_check_question : Nat) : SL := (.cons (.ret (.call i_is_paper_so (.cons (.call i_check_question (.cons (.v 0) .nil)) (.cons (.v 1) .nil)))) .nil)
/-- lot_at: question, steps, place, step -/
def PB_lot_at (i_less_so i_every_so : Nat) : SL := (.cons (.asg (.n 3) (.ix (.v 1) (.v 2))) (.cons (.ret (.ite (.cmp .eq (.ix (.v 3) (.int 0)) (.str "watched")) (.call i_less_so (.cons (.call i_every_so (.cons (.ix (.v 0) (.int 0)) .nil)) (.cons (.ix (.v 0) (.int 1)) .nil))) (.ix (.v 3) (.int 2)))) .nil))
/-- next_moved: question, moved, thing -/
def PB_next_moved (i_may_move_so : Nat) : SL := (.cons (.forr (.n 2) (.of (.ix (.v 0) (.int 3))) (.cons (.ite (.bop true (.cons (.cmp .notin (.v 2) (.v 1)) (.cons (.call i_may_move_so (.cons (.v 0) (.cons (.v 1) (.cons (.v 2) .nil)))) .nil))) (.cons (.ret (.v 2)) .nil) .nil) .nil)) (.cons (.ret .non) .nil))
/-- moved_on: question, state, moved, _steps, done, now, _left, thing -/
def PB_moved_on (i_rooms_so i_goal_now i_next_moved : Nat) : SL := (.cons (.asg (.t (.cons (.n 2) (.cons (.n 3) (.cons (.n 4) (.cons (.n 5) (.cons (.n 6) .nil)))))) (.v 1)) (.cons (.asg (.n 7) (.call i_next_moved (.cons (.v 0) (.cons (.v 2) .nil)))) (.cons (.ite (.notN (.v 7)) (.cons (.ret (.tup (.cons (.bin .add (.v 2) (.tup (.cons (.v 7) .nil))) (.cons (.tup .nil) (.cons (.v 4) (.cons (.v 5) (.cons (.tup .nil) .nil))))))) .nil) .nil) (.cons (.ret (.tup (.cons (.v 2) (.cons (.tup (.cons (.tup (.cons (.str "watched") .nil)) .nil)) (.cons (.v 4) (.cons (.v 5) (.cons (.b1 .tuple (.call i_rooms_so (.cons (.ix (.v 0) (.int 0)) (.cons (.call i_goal_now (.cons (.v 0) (.cons (.v 2) .nil))) .nil)))) .nil))))))) .nil))))
/-- narrowed: question, state, moved, steps, done, now, left, room, place, lot, whole, some, step -/
def PB_narrowed (i_leading_so i_room_so i_lot_at : Nat) : SL := (.cons (.asg (.t (.cons (.n 2) (.cons (.n 3) (.cons (.n 4) (.cons (.n 5) (.cons (.n 6) .nil)))))) (.v 1)) (.cons (.asg (.t (.cons (.n 7) (.cons (.n 8) .nil))) (.v 5)) (.cons (.asg (.n 9) (.call i_lot_at (.cons (.v 0) (.cons (.v 3) (.cons (.v 8) .nil))))) (.cons (.ite (.cmp .eq (.v 9) (.v 7)) (.cons (.ret (.tup (.cons (.v 2) (.cons (.v 3) (.cons (.bin .add (.v 4) (.tup (.cons (.v 8) .nil))) (.cons .non (.cons (.v 6) .nil))))))) .nil) .nil) (.cons (.asg (.n 10) (.call i_room_so (.cons (.ix (.v 0) (.int 0)) (.cons (.v 9) (.cons (.ix (.v 7) (.int 0)) .nil))))) (.cons (.asg (.n 11) (.call i_leading_so (.cons (.ix (.v 0) (.int 0)) (.cons (.v 9) (.cons (.v 7) .nil))))) (.cons (.ite (.cmp .ne (.v 10) (.v 9)) (.cons (.asg (.n 12) (.tup (.cons (.str "part") (.cons (.v 8) (.cons (.v 10) .nil))))) .nil) (.cons (.ite (.cmp .ne (.v 11) (.v 9)) (.cons (.asg (.n 12) (.tup (.cons (.str "sum") (.cons (.v 8) (.cons (.v 11) .nil))))) .nil) (.cons (.ret .non) .nil)) .nil)) (.cons (.ret (.tup (.cons (.v 2) (.cons (.bin .add (.v 3) (.tup (.cons (.v 12) .nil))) (.cons (.v 4) (.cons (.tup (.cons (.v 7) (.cons (.b1 .len (.v 3)) .nil))) (.cons (.v 6) .nil))))))) .nil))))))))
/-- stepped: question, state, moved, steps, done, now, left -/
def PB_stepped (i_narrowed i_moved_on : Nat) : SL := (.cons (.asg (.t (.cons (.n 2) (.cons (.n 3) (.cons (.n 4) (.cons (.n 5) (.cons (.n 6) .nil)))))) (.v 1)) (.cons (.ite (.cmp .eq (.b1 .len (.v 3)) (.int 0)) (.cons (.ret (.call i_moved_on (.cons (.v 0) (.cons (.v 1) .nil)))) .nil) .nil) (.cons (.ite (.notN (.v 5)) (.cons (.ret (.call i_narrowed (.cons (.v 0) (.cons (.v 1) .nil)))) .nil) .nil) (.cons (.ite (.cmp .eq (.ix (.ix (.v 3) (.neg (.int 1))) (.int 0)) (.str "join")) (.cons (.ret .non) .nil) .nil) (.cons (.ite (.cmp .gt (.b1 .len (.v 6)) (.int 0)) (.cons (.ret (.tup (.cons (.v 2) (.cons (.v 3) (.cons (.v 4) (.cons (.tup (.cons (.ix (.v 6) (.int 0)) (.cons (.int 0) .nil))) (.cons (.sl (.v 6) (.cons (.int 1) .nil) .nil) .nil))))))) .nil) .nil) (.cons (.ret (.tup (.cons (.v 2) (.cons (.bin .add (.v 3) (.tup (.cons (.tup (.cons (.str "join") (.cons (.b1 .tuple (.b1 .sorted (.v 4))) .nil))) .nil))) (.cons (.v 4) (.cons .non (.cons (.tup .nil) .nil))))))) .nil))))))
/-- state_after: question, many, state, number, more -/
def PB_state_after (i_stepped g_BEGUN : Nat) : SL := (.cons (.par [2, 3] (.cons (.gl g_BEGUN) (.cons (.int 0) .nil))) (.cons (.whl (.bop false (.cons (.isN (.v 1)) (.cons (.cmp .lt (.v 3) (.v 1)) .nil))) (.cons (.asg (.n 4) (.call i_stepped (.cons (.v 0) (.cons (.v 2) .nil)))) (.cons (.ite (.isN (.v 4)) (.cons (.ret (.v 2)) .nil) .nil) (.cons (.par [2, 3] (.cons (.v 4) (.cons (.bin .add (.v 3) (.int 1)) .nil))) .nil)))) (.cons (.ret (.v 2)) .nil)))
/-- solve_so: question, moved, steps, _done, now, _left -/
def PB_solve_so (i_lot_at i_state_after : Nat) : SL := (.cons (.asg (.t (.cons (.n 1) (.cons (.n 2) (.cons (.n 3) (.cons (.n 4) (.cons (.n 5) .nil)))))) (.call i_state_after (.cons (.v 0) (.cons .non .nil)))) (.cons (.ite (.isN (.v 4)) (.cons (.ret (.tup (.cons (.str "told") (.cons (.tup (.cons (.v 1) (.cons (.v 2) .nil))) .nil)))) .nil) .nil) (.cons (.ret (.tup (.cons (.str "not") (.cons (.tup (.cons (.v 1) (.cons (.call i_lot_at (.cons (.v 0) (.cons (.v 2) (.cons (.ix (.v 4) (.int 1)) .nil)))) (.cons (.ix (.v 4) (.int 0)) .nil)))) .nil)))) .nil)))
/-- solve: question -/
def PB_solve (i_solve_so i_check_question : Nat) : SL := (.cons (.ret (.call i_solve_so (.cons (.call i_check_question (.cons (.v 0) .nil)) .nil))) .nil)
/-- is_great: question, great, small, drawing, thing -/
def PB_is_great (i_leading_so i_room_so i_is_within i_is_set : Nat) : SL := (.cons (.asg (.n 3) (.ix (.v 0) (.int 0))) (.cons (.ite (.bop false (.cons (.not (.call i_is_set (.cons (.v 1) (.cons (.bin .sub (.ix (.v 3) (.int 0)) (.int 1)) .nil)))) (.cons (.not (.call i_is_within (.cons (.v 1) (.cons (.v 2) .nil)))) (.cons (.cmp .eq (.b1 .len (.v 1)) (.b1 .len (.v 2))) .nil)))) (.cons (.ret (.bl false)) .nil) .nil) (.cons (.ite (.cmp .gt (.b1 .len (.comp (.n 4) (.of (.v 1)) (.cons (.cmp .isin (.v 4) (.ix (.v 0) (.int 1))) .nil) (.int 1))) (.int 0)) (.cons (.ret (.bl false)) .nil) .nil) (.cons (.ret (.bop true (.cons (.cmp .eq (.call i_room_so (.cons (.v 3) (.cons (.v 1) (.cons (.ix (.v 1) (.int 0)) .nil)))) (.v 1)) (.cons (.cmp .eq (.call i_leading_so (.cons (.v 3) (.cons (.v 1) (.cons (.v 2) .nil)))) (.v 1)) .nil)))) .nil))))
/-- is_hedge_so: question, value, moved, great, small, thing -/
def PB_is_hedge_so (i_is_great i_rooms_so i_goal_so i_is_set i_less_so i_may_move_so i_are_moved : Nat) : SL := (.cons (.ite (.bop false (.cons (.not (.isi (.v 1) .tuple)) (.cons (.cmp .ne (.b1 .len (.v 1)) (.int 3)) (.cons (.not (.call i_are_moved (.cons (.v 0) (.cons (.ix (.v 1) (.int 0)) .nil)))) .nil)))) (.cons (.ret (.bl false)) .nil) .nil) (.cons (.asg (.t (.cons (.n 2) (.cons (.n 3) (.cons (.n 4) .nil)))) (.v 1)) (.cons (.forr (.n 5) (.of (.call i_less_so (.cons (.ix (.v 0) (.int 3)) (.cons (.v 2) .nil)))) (.cons (.ite (.call i_may_move_so (.cons (.v 0) (.cons (.v 2) (.cons (.v 5) .nil)))) (.cons (.ret (.bl false)) .nil) .nil) .nil)) (.cons (.ite (.bop false (.cons (.not (.call i_is_set (.cons (.v 4) (.cons (.bin .sub (.ix (.ix (.v 0) (.int 0)) (.int 0)) (.int 1)) .nil)))) (.cons (.cmp .notin (.v 4) (.call i_rooms_so (.cons (.ix (.v 0) (.int 0)) (.cons (.call i_goal_so (.cons (.v 0) (.cons (.v 2) .nil))) .nil)))) .nil))) (.cons (.ret (.bl false)) .nil) .nil) (.cons (.ret (.call i_is_great (.cons (.v 0) (.cons (.v 3) (.cons (.v 4) .nil))))) .nil)))))
/-- is_hedge: question, value -/
def PB_is_hedge (i_is_hedge_so i_check_question : Nat) : SL := (.cons (.ret (.call i_is_hedge_so (.cons (.call i_check_question (.cons (.v 0) .nil)) (.cons (.v 1) .nil)))) .nil)
/-- is_told: question -/
def PB_is_told (i_solve_so i_check_question : Nat) : SL := (.cons (.ret (.cmp .eq (.ix (.call i_solve_so (.cons (.call i_check_question (.cons (.v 0) .nil)) .nil)) (.int 0)) (.str "told"))) .nil)
/-- is_chance: value -/
def PB_is_chance (i_is_fraction : Nat) : SL := (.cons (.ret (.bop true (.cons (.call i_is_fraction (.cons (.v 0) .nil)) (.cons (.cmp .le (.ix (.v 0) (.int 0)) (.ix (.v 0) (.int 1))) .nil)))) .nil)
/-- sum_so: fractions, found, one -/
def PB_sum_so (i_plus_so g_NONE : Nat) : SL := (.cons (.asg (.n 1) (.gl g_NONE)) (.cons (.forr (.n 2) (.of (.v 0)) (.cons (.asg (.n 1) (.call i_plus_so (.cons (.v 1) (.cons (.v 2) .nil)))) .nil)) (.cons (.ret (.v 1)) .nil)))
/-- check_chances: question, sizes, value, at, chance, sums, key -/
def PB_check_chances (g_WHOLE i_summed_so i_is_chance i_product_so : Nat) : SL := (.cons (.ite (.bop false (.cons (.not (.isi (.v 2) .tuple)) (.cons (.cmp .ne (.b1 .len (.v 2)) (.call i_product_so (.cons (.v 1) .nil))) .nil))) (.cons .rse .nil) .nil) (.cons (.forr (.t (.cons (.n 3) (.cons (.n 4) .nil))) (.enum (.v 2)) (.cons (.ite (.not (.call i_is_chance (.cons (.v 4) .nil))) (.cons .rse .nil) .nil) .nil)) (.cons (.asg (.n 5) (.call i_summed_so (.cons (.v 1) (.cons (.v 2) (.cons (.ix (.v 0) (.int 1)) .nil))))) (.cons (.ite (.cmp .gt (.b1 .len (.comp (.n 6) (.of (.v 5)) (.cons (.cmp .ne (.ix (.v 5) (.v 6)) (.gl g_WHOLE)) .nil) (.int 1))) (.int 0)) (.cons .rse .nil) .nil) .nil))))
/-- check_table: question, value -/
def PB_check_table (i_check_chances i_product_so g_MOST_ROWS i_is_sizes : Nat) : SL := (.cons (.ite (.bop false (.cons (.not (.isi (.v 1) .tuple)) (.cons (.cmp .ne (.b1 .len (.v 1)) (.int 2)) .nil))) (.cons .rse .nil) .nil) (.cons (.ite (.not (.call i_is_sizes (.cons (.ix (.ix (.v 0) (.int 0)) (.int 0)) (.cons (.ix (.v 1) (.int 0)) .nil)))) (.cons .rse .nil) .nil) (.cons (.ite (.cmp .gt (.call i_product_so (.cons (.ix (.v 1) (.int 0)) .nil)) (.gl g_MOST_ROWS)) (.cons .rse .nil) .nil) (.cons (.ex (.call i_check_chances (.cons (.v 0) (.cons (.ix (.v 1) (.int 0)) (.cons (.ix (.v 1) (.int 1)) .nil))))) (.cons (.ret (.v 1)) .nil)))))
/-- counted_so: drawing, lot, found, thing, parent -/
def PB_counted_so (i_parents_so i_every_so : Nat) : SL := (.cons (.asg (.n 2) .dnew) (.cons (.forr (.n 3) (.of (.v 1)) (.cons (.put 2 (.v 3) (.bl true)) (.cons (.forr (.n 4) (.of (.call i_parents_so (.cons (.v 0) (.cons (.call i_every_so (.cons (.v 0) .nil)) (.cons (.v 3) .nil))))) (.cons (.put 2 (.v 4) (.bl true)) .nil)) .nil))) (.cons (.ret (.b1 .tuple (.b1 .sorted (.v 2)))) .nil)))
/-- number_so: frame, row, counted, thing -/
def PB_number_so : SL := (.cons (.ret (.b1 .sum (.comp (.n 3) (.of (.v 2)) .nil (.bin .mul (.ix (.v 1) (.v 3)) (.ix (.ix (.v 0) (.str "apart")) (.v 3)))))) .nil)
/-- plain_row: row, counted, thing, value -/
def PB_plain_row : SL := (.cons (.ret (.b1 .tuple (.comp (.t (.cons (.n 2) (.cons (.n 3) .nil))) (.enum (.v 0)) .nil (.ite (.cmp .isin (.v 2) (.v 1)) (.v 3) (.int 0))))) .nil)
/-- spread_so: frame, lot, find, counted, found, row, at -/
def PB_spread_so (i_number_so i_counted_so : Nat) : SL := (.cons (.par [3, 4] (.cons (.call i_counted_so (.cons (.ix (.ix (.v 0) (.str "question")) (.int 0)) (.cons (.v 1) .nil))) (.cons (.lst .nil) .nil))) (.cons (.forr (.n 5) (.of (.ix (.v 0) (.str "rows"))) (.cons (.asg (.n 6) (.call i_number_so (.cons (.v 0) (.cons (.v 5) (.cons (.v 3) .nil))))) (.cons (.app 4 (.ite (.cmp .lt (.v 6) (.b1 .len (.v 4))) (.ix (.v 4) (.v 6)) (.callv 2 (.cons (.v 5) (.cons (.v 6) .nil))))) .nil))) (.cons (.ret (.v 4)) .nil)))
/-- over_values: frame, places, things, thing, more, place, value -/
def PB_over_values : SL := (.cons (.forr (.n 3) (.of (.v 2)) (.cons (.asg (.n 4) (.lst .nil)) (.cons (.forr (.n 5) (.of (.v 1)) (.cons (.ext 4 (.comp (.n 6) (.rng1 (.ix (.ix (.v 0) (.str "sizes")) (.v 3))) .nil (.bin .add (.v 5) (.bin .mul (.v 6) (.ix (.ix (.v 0) (.str "apart")) (.v 3)))))) .nil)) (.cons (.asg (.n 1) (.v 4)) .nil)))) (.cons (.ret (.v 1)) .nil))
/-- gathered_so: frame, numbers, place, things, one -/
def PB_gathered_so (i_sum_so i_over_values : Nat) : SL := (.cons (.ret (.call i_sum_so (.cons (.comp (.n 4) (.of (.call i_over_values (.cons (.v 0) (.cons (.lst (.cons (.v 2) .nil)) (.cons (.v 3) .nil))))) .nil (.ix (.v 1) (.v 4))) .nil))) .nil)
/-- part_at: heads, lot, kept, row, at, found, place, thing -/
def PB_part_at (i_times_so i_over_so g_NONE g_WHOLE : Nat) : SL := (.cons (.asg (.n 5) (.gl g_WHOLE)) (.cons (.forr (.t (.cons (.n 6) (.cons (.n 7) .nil))) (.enum (.v 1)) (.cons (.ite (.cmp .isin (.v 7) (.v 2)) (.cons (.ite (.cmp .eq (.ix (.ix (.v 0) (.v 6)) (.v 4)) (.gl g_NONE)) (.cons .rse .nil) .nil) (.cons (.asg (.n 5) (.call i_times_so (.cons (.v 5) (.cons (.call i_over_so (.cons (.ix (.ix (.v 0) (.bin .add (.v 6) (.int 1))) (.v 4)) (.cons (.ix (.ix (.v 0) (.v 6)) (.v 4)) .nil))) .nil)))) .nil)) .nil) .nil)) (.cons (.ret (.v 5)) .nil)))
/-- product_at: lists, at, found, numbers -/
def PB_product_at (i_times_so g_WHOLE : Nat) : SL := (.cons (.asg (.n 2) (.gl g_WHOLE)) (.cons (.forr (.n 3) (.of (.v 0)) (.cons (.asg (.n 2) (.call i_times_so (.cons (.v 2) (.cons (.ix (.v 3) (.v 1)) .nil)))) .nil)) (.cons (.ret (.v 2)) .nil)))
/-- check_paper: question, value -/
def PB_check_paper (i_is_paper : Nat) : SL := (.cons (.ite (.not (.call i_is_paper (.cons (.v 0) (.cons (.v 1) .nil)))) (.cons .rse .nil) .nil) (.cons (.ret (.v 1)) .nil))
/-- step_factors: question, steps, table, numbers -/
def PB_step_factors (i_steps_so i_check_table i_lots_of i_check_question : Nat) : SL := (.cons (.ex (.call i_lots_of (.cons (.call i_check_question (.cons (.v 0) .nil)) (.cons (.v 1) .nil)))) (.cons (.ex (.call i_check_table (.cons (.v 0) (.cons (.v 2) .nil)))) (.cons (.ret (.b1 .tuple (.comp (.n 3) (.of (.call i_steps_so (.cons (.v 0) (.cons (.v 1) (.cons (.v 2) .nil))))) .nil (.b1 .tuple (.v 3))))) .nil)))
/-- steps_so: question, steps, table, frame, lots, found, number, step -/
def PB_steps_so (i_step_so i_lots_of i_frame_so : Nat) : SL := (.cons (.par [3, 4, 5] (.cons (.call i_frame_so (.cons (.v 0) (.cons (.v 2) .nil))) (.cons (.call i_lots_of (.cons (.v 0) (.cons (.v 1) .nil))) (.cons (.lst .nil) .nil)))) (.cons (.forr (.t (.cons (.n 6) (.cons (.n 7) .nil))) (.enum (.v 1)) (.cons (.app 5 (.call i_step_so (.cons (.v 3) (.cons (.ix (.v 2) (.int 1)) (.cons (.v 4) (.cons (.v 5) (.cons (.v 6) (.cons (.v 7) .nil)))))))) .nil)) (.cons (.ret (.v 5)) .nil)))
/-- named_so: step -/
def PB_named_so : SL := (.cons (.ite (.cmp .eq (.ix (.v 0) (.int 0)) (.str "watched")) (.cons (.ret (.tup .nil)) .nil) .nil) (.cons (.ret (.ite (.cmp .eq (.ix (.v 0) (.int 0)) (.str "join")) (.ix (.v 0) (.int 1)) (.tup (.cons (.ix (.v 0) (.int 1)) .nil)))) .nil))
/-- anew_so: step, places, place -/
def PB_anew_so : SL := (.cons (.ite (.cmp .eq (.ix (.v 0) (.int 0)) (.str "watched")) (.cons (.ret (.v 0)) .nil) .nil) (.cons (.ite (.cmp .eq (.ix (.v 0) (.int 0)) (.str "join")) (.cons (.ret (.tup (.cons (.str "join") (.cons (.b1 .tuple (.comp (.n 2) (.of (.ix (.v 0) (.int 1))) .nil (.ix (.v 1) (.v 2)))) .nil)))) .nil) .nil) (.cons (.ret (.tup (.cons (.ix (.v 0) (.int 0)) (.cons (.ix (.v 1) (.ix (.v 0) (.int 1))) (.cons (.ix (.v 0) (.int 2)) .nil))))) .nil)))
/-- need_table: question, table -/
def PB_need_table (i_check_table i_check_question : Nat) : SL := (.cons (.ret (.call i_check_table (.cons (.call i_check_question (.cons (.v 0) .nil)) (.cons (.v 1) .nil)))) .nil)
/-- noises: one, other -/
def PB_noises : SL := (.cons (.ret (.tup (.cons (.bin .add (.bin .mul (.ix (.v 0) (.int 0)) (.ix (.v 1) (.int 0))) (.bin .mul (.ix (.v 0) (.int 1)) (.ix (.v 1) (.int 1)))) (.cons (.bin .add (.bin .mul (.ix (.v 0) (.int 0)) (.ix (.v 1) (.int 1))) (.bin .mul (.ix (.v 0) (.int 1)) (.ix (.v 1) (.int 0)))) .nil)))) .nil)
/-- roots_so: drawing, small, thing -/
def PB_roots_so (i_children_so : Nat) : SL := (.cons (.ret (.b1 .tuple (.comp (.n 2) (.of (.v 1)) (.cons (.cmp .eq (.call i_children_so (.cons (.v 0) (.cons (.v 1) (.cons (.v 2) .nil)))) (.tup .nil)) .nil) (.v 2)))) .nil)
/-- feeds_so: drawing, great, small, found, thing -/
def PB_feeds_so (i_less_so i_roots_so i_children_so : Nat) : SL := (.cons (.asg (.n 3) .dnew) (.cons (.forr (.n 4) (.of (.call i_less_so (.cons (.v 1) (.cons (.call i_roots_so (.cons (.v 0) (.cons (.v 2) .nil))) .nil)))) (.cons (.put 3 (.v 4) (.ix (.call i_children_so (.cons (.v 0) (.cons (.ite (.cmp .isin (.v 4) (.v 2)) (.v 2) (.v 1)) (.cons (.v 4) .nil)))) (.int 0))) .nil)) (.cons (.ret (.v 3)) .nil)))
/-- joined_by: drawing, lot, joined, number, cause, near, thing, far -/
def PB_joined_by : SL := (.cons (.forr (.t (.cons (.n 3) (.cons (.n 4) .nil))) (.enum (.ix (.v 0) (.int 2))) (.cons (.asg (.n 5) (.comp (.n 6) (.of (.v 4)) (.cons (.cmp .isin (.v 6) (.v 2)) .nil) (.v 6))) (.cons (.asg (.n 7) (.comp (.n 6) (.of (.v 4)) (.cons (.bop true (.cons (.cmp .isin (.v 6) (.v 1)) (.cons (.cmp .notin (.v 6) (.v 2)) .nil))) .nil) (.v 6))) (.cons (.ite (.bop true (.cons (.cmp .gt (.b1 .len (.v 5)) (.int 0)) (.cons (.cmp .gt (.b1 .len (.v 7)) (.int 0)) .nil))) (.cons (.ret (.tup (.cons (.v 3) (.cons (.ix (.v 5) (.int 0)) (.cons (.ix (.v 7) (.int 0)) .nil))))) .nil) .nil) .nil)))) (.cons (.ret .non) .nil))
/-- tree_so: drawing, great, small, joined, found, lot, link -/
def PB_tree_so (i_joined_by : Nat) : SL := (.cons (.par [3, 4] (.cons (.lst (.cons (.ix (.v 2) (.int 0)) .nil)) (.cons (.lst .nil) .nil))) (.cons (.forr (.n 5) (.of (.tup (.cons (.v 2) (.cons (.v 1) .nil)))) (.cons (.whl (.cmp .lt (.b1 .len (.v 3)) (.b1 .len (.v 5))) (.cons (.asg (.n 6) (.call i_joined_by (.cons (.v 0) (.cons (.v 5) (.cons (.v 3) .nil))))) (.cons (.app 3 (.ix (.v 6) (.int 2))) (.cons (.app 4 (.v 6)) .nil)))) .nil)) (.cons (.ret (.v 4)) .nil)))
/-- first_bits: drawing, hedge, tree, places, own, _moved, great, small, feeds, roots, found, thing, inner, sources, near, place, number, far -/
def PB_first_bits (g_TURNED g_PLAIN i_roots_so i_feeds_so : Nat) : SL := (.cons (.asg (.t (.cons (.n 5) (.cons (.n 6) (.cons (.n 7) .nil)))) (.v 1)) (.cons (.par [8, 9, 10] (.cons (.call i_feeds_so (.cons (.v 0) (.cons (.v 6) (.cons (.v 7) .nil)))) (.cons (.call i_roots_so (.cons (.v 0) (.cons (.v 7) .nil))) (.cons .dnew .nil)))) (.cons (.forr (.n 11) (.of (.v 6)) (.cons (.asg (.n 12) (.bop true (.cons (.v 4) (.cons (.cmp .isin (.v 11) (.v 7)) .nil)))) (.cons (.asg (.n 13) (.comp (.n 14) (.of (.v 8)) (.cons (.bop true (.cons (.cmp .eq (.ix (.v 8) (.v 14)) (.v 11)) (.cons (.bop false (.cons (.not (.v 12)) (.cons (.cmp .isin (.v 14) (.v 7)) .nil))) .nil))) .nil) (.tup (.cons (.str "first") (.cons (.v 14) .nil))))) (.cons (.forr (.t (.cons (.n 15) (.cons (.t (.cons (.n 16) (.cons (.n 14) (.cons (.n 17) .nil)))) .nil))) (.enum (.v 2)) (.cons (.ite (.bop true (.cons (.cmp .isin (.v 11) (.tup (.cons (.v 14) (.cons (.v 17) .nil)))) (.cons (.bop false (.cons (.not (.v 12)) (.cons (.cmp .lt (.v 15) (.bin .sub (.b1 .len (.v 7)) (.int 1))) .nil))) .nil))) (.cons (.app 13 (.tup (.cons (.str "cause") (.cons (.v 16) (.cons (.ix (.v 3) (.v 15)) .nil))))) .nil) .nil) .nil)) (.cons (.put 10 (.tup (.cons (.v 11) (.cons (.str "first") .nil))) (.tup (.cons (.v 13) (.cons (.ite (.cmp .eq (.v 11) (.ix (.v 9) (.int 0))) (.gl g_TURNED) (.gl g_PLAIN)) .nil)))) .nil))))) (.cons (.ret (.v 10)) .nil))))
/-- third_bits: found, drawing, shut, seen, road, comes, place, thing, word, near, far -/
def PB_third_bits (i_way_down g_TURNED g_FAIR : Nat) : SL := (.cons (.forr (.t (.cons (.n 6) (.cons (.n 7) .nil))) (.enum (.ix (.v 4) (.int 0))) (.cons (.ite (.cmp .gt (.v 6) (.int 0)) (.cons (.put 0 (.tup (.cons (.v 7) (.cons (.str "third") .nil))) (.tup (.cons (.ix (.v 5) (.v 6)) (.cons (.ite (.cmp .eq (.ix (.v 5) (.v 6)) (.lst .nil)) (.gl g_FAIR) (.gl g_TURNED)) .nil)))) .nil) .nil) (.cons (.ite (.bop true (.cons (.cmp .gt (.v 6) (.int 0)) (.cons (.cmp .eq (.b1 .len (.ix (.v 5) (.v 6))) (.int 2)) (.cons (.cmp .notin (.v 7) (.v 3)) .nil)))) (.cons (.par [8, 9] (.cons (.str "third") (.cons (.v 7) .nil))) (.cons (.forr (.n 10) (.of (.sl (.call i_way_down (.cons (.v 1) (.cons (.v 2) (.cons (.v 3) (.cons (.v 7) .nil))))) (.cons (.int 1) .nil) .nil)) (.cons (.put 0 (.tup (.cons (.v 10) (.cons (.tup (.cons (.str "down") (.cons (.v 6) .nil))) .nil))) (.tup (.cons (.lst (.cons (.tup (.cons (.v 8) (.cons (.v 9) .nil))) .nil)) (.cons (.gl g_TURNED) .nil)))) (.cons (.par [8, 9] (.cons (.tup (.cons (.str "down") (.cons (.v 6) .nil))) (.cons (.v 10) .nil))) .nil))) .nil)) .nil) .nil))) .nil)
/-- put_down: found, thing, comes, word, sources, noise -/
def PB_put_down : SL := (.cons (.asg (.n 3) (.ite (.cmp .isin (.tup (.cons (.v 1) (.cons (.str "second") .nil))) (.v 0)) (.str "second") (.str "first"))) (.cons (.asg (.t (.cons (.n 4) (.cons (.n 5) .nil))) (.ix (.v 0) (.tup (.cons (.v 1) (.cons (.v 3) .nil))))) (.cons (.put 0 (.tup (.cons (.v 1) (.cons (.v 3) .nil))) (.tup (.cons (.bin .add (.v 4) (.v 2)) (.cons (.v 5) .nil)))) .nil)))
/-- solving_after: question, many -/
def PB_solving_after (i_state_after i_is_from g_MOST_STEPS i_check_question : Nat) : SL := (.cons (.ex (.call i_check_question (.cons (.v 0) .nil))) (.cons (.ite (.not (.call i_is_from (.cons (.v 1) (.cons (.int 0) (.cons (.gl g_MOST_STEPS) .nil))))) (.cons .rse .nil) .nil) (.cons (.ret (.call i_state_after (.cons (.v 0) (.cons (.v 1) .nil)))) .nil)))
/-- place_of: sizes, row, place, size, value -/
def PB_place_of (i_is_from : Nat) : SL := (.cons (.ite (.bop false (.cons (.not (.isi (.v 1) .tuple)) (.cons (.cmp .ne (.b1 .len (.v 1)) (.b1 .len (.v 0))) .nil))) (.cons (.ret .non) .nil) .nil) (.cons (.asg (.n 2) (.int 0)) (.cons (.forr (.t (.cons (.n 3) (.cons (.n 4) .nil))) (.zip (.v 0) (.v 1)) (.cons (.ite (.not (.call i_is_from (.cons (.v 4) (.cons (.int 0) (.cons (.bin .sub (.v 3) (.int 1)) .nil))))) (.cons (.ret .non) .nil) .nil) (.cons (.asg (.n 2) (.bin .add (.bin .mul (.v 2) (.v 3)) (.v 4))) .nil))) (.cons (.ret (.v 2)) .nil))))
/-- is_two_worlds: question, value, one, other, row, place, thing, watched, chance -/
def PB_is_two_worlds (i_answer_so i_watched_so i_place_of i_things_so i_is_world i_check_question : Nat) : SL := (.cons (.ex (.call i_check_question (.cons (.v 0) .nil))) (.cons (.ite (.bop false (.cons (.not (.isi (.v 1) .tuple)) (.cons (.cmp .ne (.b1 .len (.v 1)) (.int 3)) .nil))) (.cons (.ret (.bl false)) .nil) .nil) (.cons (.asg (.t (.cons (.n 2) (.cons (.n 3) (.cons (.n 4) .nil)))) (.v 1)) (.cons (.ite (.bop false (.cons (.not (.call i_is_world (.cons (.ix (.v 0) (.int 0)) (.cons (.v 2) .nil)))) (.cons (.not (.call i_is_world (.cons (.ix (.v 0) (.int 0)) (.cons (.v 3) .nil)))) (.cons (.cmp .ne (.ix (.v 2) (.int 0)) (.ix (.v 3) (.int 0))) .nil)))) (.cons (.ret (.bl false)) .nil) .nil) (.cons (.asg (.n 5) (.call i_place_of (.cons (.comp (.n 6) (.of (.call i_things_so (.cons (.v 0) .nil))) .nil (.ix (.ix (.v 2) (.int 0)) (.v 6))) (.cons (.v 4) .nil)))) (.cons (.asg (.n 7) (.call i_watched_so (.cons (.v 0) (.cons (.v 2) .nil)))) (.cons (.ite (.bop false (.cons (.isN (.v 5)) (.cons (.cmp .ne (.v 7) (.call i_watched_so (.cons (.v 0) (.cons (.v 3) .nil)))) .nil))) (.cons (.ret (.bl false)) .nil) .nil) (.cons (.ite (.cmp .gt (.b1 .len (.comp (.n 8) (.of (.v 7)) (.cons (.cmp .eq (.ix (.v 8) (.int 0)) (.int 0)) .nil) (.int 1))) (.int 0)) (.cons (.ret (.bl false)) .nil) .nil) (.cons (.ret (.cmp .ne (.ix (.call i_answer_so (.cons (.v 0) (.cons (.v 2) .nil))) (.v 5)) (.ix (.call i_answer_so (.cons (.v 0) (.cons (.v 3) .nil))) (.v 5)))) .nil)))))))))
/-- moved_so: question, moved, thing -/
def PB_moved_so (i_next_moved : Nat) : SL := (.cons (.par [1, 2] (.cons (.tup .nil) (.cons (.call i_next_moved (.cons (.v 0) (.cons (.tup .nil) .nil))) .nil))) (.cons (.whl (.notN (.v 2)) (.cons (.asg (.n 1) (.bin .add (.v 1) (.tup (.cons (.v 2) .nil)))) (.cons (.asg (.n 2) (.call i_next_moved (.cons (.v 0) (.cons (.v 1) .nil)))) .nil))) (.cons (.ret (.v 1)) .nil)))
/-- with_moved: question, moved, drawing, tried, over, seen, asked -/
def PB_with_moved (i_less_so : Nat) : SL := (.cons (.asg (.t (.cons (.n 2) (.cons (.n 3) (.cons (.n 4) (.cons (.n 5) (.cons (.n 6) .nil)))))) (.v 0)) (.cons (.ret (.tup (.cons (.v 2) (.cons (.v 3) (.cons (.b1 .tuple (.b1 .sorted (.bin .add (.v 4) (.v 1)))) (.cons (.call i_less_so (.cons (.v 5) (.cons (.v 1) .nil))) (.cons (.v 6) .nil))))))) .nil))
/-- is_moved: question, moved, place, thing -/
def PB_is_moved (i_may_move_so : Nat) : SL := (.cons (.ite (.not (.isi (.v 1) .tuple)) (.cons (.ret (.bl false)) .nil) .nil) (.cons (.forr (.t (.cons (.n 2) (.cons (.n 3) .nil))) (.enum (.v 1)) (.cons (.ite (.bop false (.cons (.not (.isi (.v 3) .int)) (.cons (.isi (.v 3) .bool) (.cons (.cmp .notin (.v 3) (.ix (.v 0) (.int 3))) .nil)))) (.cons (.ret (.bl false)) .nil) .nil) (.cons (.ite (.bop false (.cons (.cmp .isin (.v 3) (.sl (.v 1) .nil (.cons (.v 2) .nil))) (.cons (.not (.call i_may_move_so (.cons (.v 0) (.cons (.sl (.v 1) .nil (.cons (.v 2) .nil)) (.cons (.v 3) .nil))))) .nil))) (.cons (.ret (.bl false)) .nil) .nil) .nil))) (.cons (.ret (.bl true)) .nil)))
/-- moved_all: question -/
def PB_moved_all (i_moved_so i_check_question : Nat) : SL := (.cons (.ret (.b1 .tuple (.b1 .sorted (.call i_moved_so (.cons (.call i_check_question (.cons (.v 0) .nil)) .nil))))) .nil)
/-- moved_question: question, moved -/
def PB_moved_question (i_with_moved i_is_moved i_check_question : Nat) : SL := (.cons (.ex (.call i_check_question (.cons (.v 0) .nil))) (.cons (.ite (.not (.call i_is_moved (.cons (.v 0) (.cons (.v 1) .nil)))) (.cons .rse .nil) .nil) (.cons (.ret (.call i_with_moved (.cons (.v 0) (.cons (.v 1) .nil)))) .nil)))
/-- back_road: question, thing, drawing, _tried, over, seen, asked, known, road -/
def PB_back_road (i_road_so i_less_so i_check_question : Nat) : SL := (.cons (.asg (.t (.cons (.n 2) (.cons (.n 3) (.cons (.n 4) (.cons (.n 5) (.cons (.n 6) .nil)))))) (.call i_check_question (.cons (.v 0) .nil))) (.cons (.ite (.bop false (.cons (.not (.isi (.v 1) .int)) (.cons (.isi (.v 1) .bool) (.cons (.cmp .notin (.v 1) (.v 5)) .nil)))) (.cons .rse .nil) .nil) (.cons (.asg (.n 7) (.b1 .tuple (.b1 .sorted (.bin .add (.v 4) (.call i_less_so (.cons (.v 5) (.cons (.tup (.cons (.v 1) .nil)) .nil))))))) (.cons (.asg (.n 8) (.call i_road_so (.cons (.v 2) (.cons (.v 4) (.cons (.tup (.cons (.v 1) .nil)) (.cons (.v 1) (.cons (.v 6) (.cons (.v 7) .nil)))))))) (.cons (.ite (.isN (.v 8)) (.cons .rse .nil) .nil) (.cons (.ret (.v 8)) .nil))))))
/-- with_seen: question, more, drawing, tried, over, seen, asked -/
def PB_with_seen : SL := (.cons (.asg (.t (.cons (.n 2) (.cons (.n 3) (.cons (.n 4) (.cons (.n 5) (.cons (.n 6) .nil)))))) (.v 0)) (.cons (.ret (.tup (.cons (.v 2) (.cons (.v 3) (.cons (.v 4) (.cons (.b1 .tuple (.b1 .sorted (.bin .add (.v 5) (.v 1)))) (.cons (.v 6) .nil))))))) .nil))
/-- free_so: question -/
def PB_free_so (i_less_so i_things_so i_every_so : Nat) : SL := (.cons (.ret (.call i_less_so (.cons (.call i_every_so (.cons (.ix (.v 0) (.int 0)) .nil)) (.cons (.call i_things_so (.cons (.v 0) .nil)) .nil)))) .nil)
/-- told_with: question, more, thing -/
def PB_told_with (i_solve_so i_with_seen i_free_so i_is_set i_check_question : Nat) : SL := (.cons (.ex (.call i_check_question (.cons (.v 0) .nil))) (.cons (.ite (.bop false (.cons (.not (.call i_is_set (.cons (.v 1) (.cons (.bin .sub (.ix (.ix (.v 0) (.int 0)) (.int 0)) (.int 1)) .nil)))) (.cons (.cmp .gt (.b1 .len (.comp (.n 2) (.of (.v 1)) (.cons (.cmp .notin (.v 2) (.call i_free_so (.cons (.v 0) .nil))) .nil) (.int 1))) (.int 0)) .nil))) (.cons .rse .nil) .nil) (.cons (.ret (.cmp .eq (.ix (.call i_solve_so (.cons (.call i_with_seen (.cons (.v 0) (.cons (.v 1) .nil))) .nil)) (.int 0)) (.str "told"))) .nil)))
/-- least_seen: question, more -/
def PB_least_seen (i_lots_so i_free_so i_solve_so i_with_seen i_check_question : Nat) : SL := (.cons (.ex (.call i_check_question (.cons (.v 0) .nil))) (.cons (.forr (.n 1) (.of (.call i_lots_so (.cons (.call i_free_so (.cons (.v 0) .nil)) .nil))) (.cons (.ite (.cmp .eq (.ix (.call i_solve_so (.cons (.call i_with_seen (.cons (.v 0) (.cons (.v 1) .nil))) .nil)) (.int 0)) (.str "told")) (.cons (.ret (.v 1)) .nil) .nil) .nil)) (.cons .rse .nil)))
/-- check_rule: value -/
def PB_check_rule (g_RULES : Nat) : SL := (.cons (.ite (.bop false (.cons (.not (.isi (.v 0) .str)) (.cons (.cmp .notin (.v 0) (.gl g_RULES)) .nil))) (.cons .rse .nil) .nil) (.cons (.ret (.v 0)) .nil))
/-- check_ruled: question, rule, value, some -/
def PB_check_ruled (i_is_from : Nat) : SL := (.cons (.asg (.n 3) (.ite (.cmp .eq (.v 1) (.str "undo")) (.ix (.v 0) (.int 2)) (.ix (.v 0) (.int 3)))) (.cons (.ite (.bop false (.cons (.not (.call i_is_from (.cons (.v 2) (.cons (.int 0) (.cons (.bin .sub (.ix (.ix (.v 0) (.int 0)) (.int 0)) (.int 1)) .nil))))) (.cons (.cmp .notin (.v 2) (.v 3)) .nil))) (.cons .rse .nil) .nil) (.cons (.ret (.v 2)) .nil)))
/-- beside_so: question, rule, thing, drawing, tried, put, seen, asked, more -/
def PB_beside_so (i_less_so : Nat) : SL := (.cons (.asg (.t (.cons (.n 3) (.cons (.n 4) (.cons (.n 5) (.cons (.n 6) (.cons (.n 7) .nil)))))) (.v 0)) (.cons (.ite (.cmp .eq (.v 1) (.str "undo")) (.cons (.ret (.tup (.cons (.v 3) (.cons (.call i_less_so (.cons (.v 4) (.cons (.tup (.cons (.v 2) .nil)) .nil))) (.cons (.call i_less_so (.cons (.v 5) (.cons (.tup (.cons (.v 2) .nil)) .nil))) (.cons (.v 6) (.cons (.v 7) .nil))))))) .nil) .nil) (.cons (.asg (.n 8) (.ite (.cmp .eq (.v 1) (.str "forget")) (.v 5) (.b1 .tuple (.b1 .sorted (.bin .add (.v 5) (.tup (.cons (.v 2) .nil))))))) (.cons (.ret (.tup (.cons (.v 3) (.cons (.v 4) (.cons (.v 8) (.cons (.call i_less_so (.cons (.v 6) (.cons (.tup (.cons (.v 2) .nil)) .nil))) (.cons (.v 7) .nil))))))) .nil))))
/-- leads_to_seen: question, thing, rest -/
def PB_leads_to_seen (i_leading_so i_less_so i_every_so : Nat) : SL := (.cons (.asg (.n 2) (.call i_less_so (.cons (.ix (.v 0) (.int 2)) (.cons (.tup (.cons (.v 1) .nil)) .nil)))) (.cons (.ret (.cmp .isin (.v 1) (.call i_leading_so (.cons (.ix (.v 0) (.int 0)) (.cons (.call i_less_so (.cons (.call i_every_so (.cons (.ix (.v 0) (.int 0)) .nil)) (.cons (.v 2) .nil))) (.cons (.ix (.v 0) (.int 3)) .nil)))))) .nil))
/-- cuts_so: question, rule, thing, put, seen, given, rest -/
def PB_cuts_so (i_leads_to_seen i_less_so : Nat) : SL := (.cons (.par [3, 4] (.cons (.ix (.v 0) (.int 2)) (.cons (.ix (.v 0) (.int 3)) .nil))) (.cons (.ite (.cmp .ne (.v 1) (.str "undo")) (.cons (.asg (.n 5) (.b1 .tuple (.b1 .sorted (.bin .add (.v 3) (.call i_less_so (.cons (.v 4) (.cons (.tup (.cons (.v 2) .nil)) .nil))))))) (.cons (.ret (.tup (.cons (.v 3) (.cons (.ite (.cmp .eq (.v 1) (.str "set")) (.tup (.cons (.v 2) .nil)) (.tup .nil)) (.cons (.v 5) .nil))))) .nil)) .nil) (.cons (.asg (.n 6) (.call i_less_so (.cons (.v 3) (.cons (.tup (.cons (.v 2) .nil)) .nil)))) (.cons (.ret (.tup (.cons (.ite (.call i_leads_to_seen (.cons (.v 0) (.cons (.v 2) .nil))) (.v 6) (.v 3)) (.cons (.tup .nil) (.cons (.b1 .tuple (.b1 .sorted (.bin .add (.v 6) (.v 4)))) .nil))))) .nil))))
/-- ruled_road: question, rule, thing, over, under, seen -/
def PB_ruled_road (i_road_so i_cuts_so : Nat) : SL := (.cons (.asg (.t (.cons (.n 3) (.cons (.n 4) (.cons (.n 5) .nil)))) (.call i_cuts_so (.cons (.v 0) (.cons (.v 1) (.cons (.v 2) .nil))))) (.cons (.ret (.call i_road_so (.cons (.ix (.v 0) (.int 0)) (.cons (.v 3) (.cons (.v 4) (.cons (.v 2) (.cons (.ix (.v 0) (.int 4)) (.cons (.v 5) .nil)))))))) .nil))
/-- told_so: question, rule, thing, road -/
def PB_told_so (i_ruled_road i_check_ruled i_check_question : Nat) : SL := (.cons (.ex (.call i_check_question (.cons (.v 0) .nil))) (.cons (.asg (.n 3) (.call i_ruled_road (.cons (.v 0) (.cons (.v 1) (.cons (.call i_check_ruled (.cons (.v 0) (.cons (.v 1) (.cons (.v 2) .nil)))) .nil))))) (.cons (.ret (.tup (.cons (.isN (.v 3)) (.cons (.v 3) .nil)))) .nil)))
/-- beside: question, rule, thing -/
def PB_beside (i_beside_so i_check_ruled i_check_rule i_check_question : Nat) : SL := (.cons (.ex (.call i_check_question (.cons (.v 0) .nil))) (.cons (.ex (.call i_check_rule (.cons (.v 1) .nil))) (.cons (.ret (.call i_beside_so (.cons (.v 0) (.cons (.v 1) (.cons (.call i_check_ruled (.cons (.v 0) (.cons (.v 1) (.cons (.v 2) .nil)))) .nil))))) .nil)))
/-- forget: question, thing -/
def PB_forget (i_told_so : Nat) : SL := (.cons (.ret (.call i_told_so (.cons (.v 0) (.cons (.str "forget") (.cons (.v 1) .nil))))) .nil)
/-- set_for_seen: question, thing -/
def PB_set_for_seen (i_told_so : Nat) : SL := (.cons (.ret (.call i_told_so (.cons (.v 0) (.cons (.str "set") (.cons (.v 1) .nil))))) .nil)
/-- undo: question, thing -/
def PB_undo (i_told_so : Nat) : SL := (.cons (.ret (.call i_told_so (.cons (.v 0) (.cons (.str "undo") (.cons (.v 1) .nil))))) .nil)
/-- cut_arrows: drawing, over, under -/
def PB_cut_arrows (i_cut_so : Nat) : SL := (.cons (.ret (.tup (.cons (.ix (.v 0) (.int 0)) (.cons (.ix (.call i_cut_so (.cons (.v 0) (.cons (.v 1) (.cons (.v 2) .nil)))) (.int 1)) (.cons (.ix (.v 0) (.int 2)) .nil))))) .nil)
/-- road_apart: question, rule, thing, drawing, put, asked, over, under, seen, cuts, above, below, road -/
def PB_road_apart (i_road_so i_cuts_so : Nat) : SL := (.cons (.par [3, 4, 5] (.cons (.ix (.v 0) (.int 0)) (.cons (.ix (.v 0) (.int 2)) (.cons (.ix (.v 0) (.int 4)) .nil)))) (.cons (.asg (.t (.cons (.n 6) (.cons (.n 7) (.cons (.n 8) .nil)))) (.call i_cuts_so (.cons (.v 0) (.cons (.v 1) (.cons (.v 2) .nil))))) (.cons (.asg (.n 9) (.lst (.cons (.tup (.cons (.v 6) (.cons (.v 7) .nil))) .nil))) (.cons (.ite (.bop true (.cons (.cmp .eq (.v 1) (.str "undo")) (.cons (.cmp .ne (.v 6) (.v 4)) .nil))) (.cons (.asg (.n 9) (.lst (.cons (.tup (.cons (.v 4) (.cons (.tup .nil) .nil))) (.cons (.tup (.cons (.v 6) (.cons (.tup (.cons (.v 2) .nil)) .nil))) .nil)))) .nil) .nil) (.cons (.forr (.t (.cons (.n 10) (.cons (.n 11) .nil))) (.of (.v 9)) (.cons (.asg (.n 12) (.call i_road_so (.cons (.v 3) (.cons (.v 10) (.cons (.v 11) (.cons (.v 2) (.cons (.v 5) (.cons (.v 8) .nil)))))))) (.cons (.ite (.notN (.v 12)) (.cons (.ret (.tup (.cons (.v 12) (.cons (.v 10) (.cons (.v 11) .nil))))) .nil) .nil) .nil))) (.cons (.ret .non) .nil))))))
/-- world_apart: question, rule, thing, found, road, over, under, seen, coins, bits -/
def PB_world_apart (i_built_so i_handed_down i_road_bits i_cut_arrows i_cuts_so i_road_apart : Nat) : SL := (.cons (.asg (.n 3) (.call i_road_apart (.cons (.v 0) (.cons (.v 1) (.cons (.v 2) .nil))))) (.cons (.ite (.isN (.v 3)) (.cons (.ret .non) .nil) .nil) (.cons (.asg (.t (.cons (.n 4) (.cons (.n 5) (.cons (.n 6) .nil)))) (.v 3)) (.cons (.asg (.n 7) (.ix (.call i_cuts_so (.cons (.v 0) (.cons (.v 1) (.cons (.v 2) .nil)))) (.int 2))) (.cons (.asg (.t (.cons (.n 8) (.cons (.n 9) .nil))) (.call i_road_bits (.cons (.call i_cut_arrows (.cons (.ix (.v 0) (.int 0)) (.cons (.v 5) (.cons (.v 6) .nil)))) (.cons (.v 7) (.cons (.ix (.v 4) (.int 0)) (.cons (.ix (.v 4) (.int 1)) .nil)))))) (.cons (.ite (.bop true (.cons (.cmp .eq (.v 1) (.str "undo")) (.cons (.cmp .gt (.b1 .len (.v 6)) (.int 0)) .nil))) (.cons (.ex (.call i_handed_down (.cons (.v 0) (.cons (.v 2) (.cons (.v 9) .nil))))) .nil) .nil) (.cons (.ret (.call i_built_so (.cons (.ix (.v 0) (.int 0)) (.cons (.v 8) (.cons (.v 9) .nil))))) .nil)))))))
/-- is_unlike: question, other, world, row, sizes, place, thing, near, far -/
def PB_is_unlike (i_other_place i_answer_so i_place_so i_things_so : Nat) : SL := (.cons (.asg (.n 4) (.ix (.v 2) (.int 0))) (.cons (.asg (.n 5) (.call i_place_so (.cons (.comp (.n 6) (.of (.call i_things_so (.cons (.v 0) .nil))) .nil (.ix (.v 4) (.v 6))) (.cons (.v 3) .nil)))) (.cons (.par [7, 8] (.cons (.call i_answer_so (.cons (.v 0) (.cons (.v 2) .nil))) (.cons (.call i_answer_so (.cons (.v 1) (.cons (.v 2) .nil))) .nil))) (.cons (.ret (.cmp .ne (.ix (.v 7) (.v 5)) (.ix (.v 8) (.call i_other_place (.cons (.v 0) (.cons (.v 1) (.cons (.v 4) (.cons (.v 3) .nil)))))))) .nil))))
/-- unlike_row: question, other, world, sizes, near, far, place, row, thing -/
def PB_unlike_row (i_rows_so i_things_so i_other_place i_answer_so : Nat) : SL := (.cons (.asg (.n 3) (.ix (.v 2) (.int 0))) (.cons (.par [4, 5] (.cons (.call i_answer_so (.cons (.v 0) (.cons (.v 2) .nil))) (.cons (.call i_answer_so (.cons (.v 1) (.cons (.v 2) .nil))) .nil))) (.cons (.forr (.t (.cons (.n 6) (.cons (.n 7) .nil))) (.enum (.call i_rows_so (.cons (.comp (.n 8) (.of (.call i_things_so (.cons (.v 0) .nil))) .nil (.ix (.v 3) (.v 8))) .nil))) (.cons (.ite (.cmp .ne (.ix (.v 4) (.v 6)) (.ix (.v 5) (.call i_other_place (.cons (.v 0) (.cons (.v 1) (.cons (.v 3) (.cons (.v 7) .nil))))))) (.cons (.ret (.v 7)) .nil) .nil) .nil)) (.cons (.ret .non) .nil))))
/-- is_positive: drawing, world -/
def PB_is_positive (g_NONE i_factor_so i_every_so : Nat) : SL := (.cons (.ret (.cmp .notin (.gl g_NONE) (.call i_factor_so (.cons (.v 0) (.cons (.v 1) (.cons (.call i_every_so (.cons (.v 0) .nil)) .nil)))))) .nil)
/-- apart: question, rule, thing, world -/
def PB_apart (i_unlike_row i_beside_so i_world_apart i_check_ruled i_check_rule i_check_question : Nat) : SL := (.cons (.ex (.call i_check_question (.cons (.v 0) .nil))) (.cons (.ex (.call i_check_rule (.cons (.v 1) .nil))) (.cons (.asg (.n 3) (.call i_world_apart (.cons (.v 0) (.cons (.v 1) (.cons (.call i_check_ruled (.cons (.v 0) (.cons (.v 1) (.cons (.v 2) .nil)))) .nil))))) (.cons (.ite (.isN (.v 3)) (.cons .rse .nil) .nil) (.cons (.ret (.tup (.cons (.v 3) (.cons (.call i_unlike_row (.cons (.v 0) (.cons (.call i_beside_so (.cons (.v 0) (.cons (.v 1) (.cons (.v 2) .nil)))) (.cons (.v 3) .nil)))) .nil)))) .nil)))))
/-- is_value: value, size -/
def PB_is_value : SL := (.cons (.ret (.bop true (.cons (.isi (.v 0) .int) (.cons (.not (.isi (.v 0) .bool)) (.cons (.chain .le .lt (.int 0) (.v 0) (.v 1)) .nil))))) .nil)
/-- tried_as: question, tried -/
def PB_tried_as : SL := (.cons (.ret (.bin .add (.bin .add (.sl (.v 0) .nil (.cons (.int 1) .nil)) (.tup (.cons (.v 1) .nil))) (.sl (.v 0) (.cons (.int 2) .nil) .nil))) .nil)
/-- check_tried: question, value -/
def PB_check_tried (i_is_within i_check_lot : Nat) : SL := (.cons (.ite (.not (.call i_is_within (.cons (.ix (.v 0) (.int 2)) (.cons (.call i_check_lot (.cons (.ix (.v 0) (.int 0)) (.cons (.v 1) .nil))) .nil)))) (.cons .rse .nil) .nil) (.cons (.ret (.v 1)) .nil))
/-- with_tried: question, tried -/
def PB_with_tried (i_tried_as i_check_tried i_check_question : Nat) : SL := (.cons (.ex (.call i_check_question (.cons (.v 0) .nil))) (.cons (.ret (.call i_tried_as (.cons (.v 0) (.cons (.call i_check_tried (.cons (.v 0) (.cons (.v 1) .nil))) .nil)))) .nil))
/-- told_by: question, tried -/
def PB_told_by (i_solve_so i_with_tried : Nat) : SL := (.cons (.ret (.call i_solve_so (.cons (.call i_with_tried (.cons (.v 0) (.cons (.v 1) .nil))) .nil))) .nil)
/-- check_prices: things, value, price -/
def PB_check_prices (i_is_from g_MOST_PRICE : Nat) : SL := (.cons (.ite (.bop false (.cons (.not (.isi (.v 1) .tuple)) (.cons (.cmp .ne (.b1 .len (.v 1)) (.b1 .len (.v 0))) .nil))) (.cons .rse .nil) .nil) (.cons (.ite (.cmp .gt (.b1 .len (.comp (.n 2) (.of (.v 1)) (.cons (.not (.call i_is_from (.cons (.v 2) (.cons (.int 0) (.cons (.gl g_MOST_PRICE) .nil))))) .nil) (.int 1))) (.int 0)) (.cons .rse .nil) .nil) (.cons (.ret (.v 1)) .nil)))
/-- priced_lots: things, prices, found, thing, price, cost, lot -/
def PB_priced_lots : SL := (.cons (.asg (.n 2) (.lst (.cons (.tup (.cons (.int 0) (.cons (.tup .nil) .nil))) .nil))) (.cons (.forr (.t (.cons (.n 3) (.cons (.n 4) .nil))) (.zip (.v 0) (.v 1)) (.cons (.asg (.n 2) (.bin .add (.v 2) (.comp (.t (.cons (.n 5) (.cons (.n 6) .nil))) (.of (.v 2)) .nil (.tup (.cons (.bin .add (.v 5) (.v 4)) (.cons (.bin .add (.v 6) (.tup (.cons (.v 3) .nil))) .nil)))))) .nil)) (.cons (.ret (.b1 .sorted (.v 2))) .nil)))
/-- is_apart_from: lot, other, thing -/
def PB_is_apart_from : SL := (.cons (.ret (.cmp .eq (.b1 .len (.comp (.n 2) (.of (.v 0)) (.cons (.cmp .isin (.v 2) (.v 1)) .nil) (.int 1))) (.int 0))) .nil)
/-- is_met: hedges, lot, _moved, great, _small -/
def PB_is_met (i_is_apart_from : Nat) : SL := (.cons (.ret (.cmp .eq (.b1 .len (.comp (.t (.cons (.n 2) (.cons (.n 3) (.cons (.n 4) .nil)))) (.of (.v 0)) (.cons (.call i_is_apart_from (.cons (.v 3) (.cons (.v 1) .nil))) .nil) (.int 1))) (.int 0))) .nil)
/-- cheapest_try: question, prices, hedges, _cost, lot, word, found -/
def PB_cheapest_try (i_priced_lots i_is_met i_solve_so i_tried_as i_check_prices i_check_question : Nat) : SL := (.cons (.ex (.call i_check_question (.cons (.v 0) .nil))) (.cons (.ex (.call i_check_prices (.cons (.ix (.v 0) (.int 2)) (.cons (.v 1) .nil)))) (.cons (.asg (.n 2) (.tup .nil)) (.cons (.forr (.t (.cons (.n 3) (.cons (.n 4) .nil))) (.of (.call i_priced_lots (.cons (.ix (.v 0) (.int 2)) (.cons (.v 1) .nil)))) (.cons (.ite (.call i_is_met (.cons (.v 2) (.cons (.v 4) .nil))) (.cons (.asg (.t (.cons (.n 5) (.cons (.n 6) .nil))) (.call i_solve_so (.cons (.call i_tried_as (.cons (.v 0) (.cons (.v 4) .nil))) .nil))) (.cons (.ite (.cmp .eq (.v 5) (.str "told")) (.cons (.ret (.tup (.cons (.v 4) (.cons (.v 6) (.cons (.v 2) .nil))))) .nil) .nil) (.cons (.asg (.n 2) (.bin .add (.v 2) (.tup (.cons (.v 6) .nil)))) .nil))) .nil) .nil)) (.cons (.ret .non) .nil)))))
/-- are_hedges: question, value, item -/
def PB_are_hedges (i_is_hedge i_tried_as : Nat) : SL := (.cons (.ite (.not (.isi (.v 1) .tuple)) (.cons (.ret (.bl false)) .nil) .nil) (.cons (.ret (.cmp .eq (.b1 .len (.comp (.n 2) (.of (.v 1)) (.cons (.not (.call i_is_hedge (.cons (.call i_tried_as (.cons (.v 0) (.cons (.tup .nil) .nil))) (.cons (.v 2) .nil)))) .nil) (.int 1))) (.int 0))) .nil))
/-- is_cheapest_try: question, prices, value, tried, paper, hedges, _cost, lot -/
def PB_is_cheapest_try (i_priced_lots i_is_met i_are_hedges i_is_paper i_tried_as i_is_within i_is_set i_check_prices i_check_question : Nat) : SL := (.cons (.ex (.call i_check_question (.cons (.v 0) .nil))) (.cons (.ex (.call i_check_prices (.cons (.ix (.v 0) (.int 2)) (.cons (.v 1) .nil)))) (.cons (.ite (.bop false (.cons (.not (.isi (.v 2) .tuple)) (.cons (.cmp .ne (.b1 .len (.v 2)) (.int 3)) .nil))) (.cons (.ret (.bl false)) .nil) .nil) (.cons (.asg (.t (.cons (.n 3) (.cons (.n 4) (.cons (.n 5) .nil)))) (.v 2)) (.cons (.ite (.bop false (.cons (.not (.call i_is_set (.cons (.v 3) (.cons (.bin .sub (.ix (.ix (.v 0) (.int 0)) (.int 0)) (.int 1)) .nil)))) (.cons (.not (.call i_is_within (.cons (.ix (.v 0) (.int 2)) (.cons (.v 3) .nil)))) .nil))) (.cons (.ret (.bl false)) .nil) .nil) (.cons (.ite (.bop false (.cons (.not (.call i_is_paper (.cons (.call i_tried_as (.cons (.v 0) (.cons (.v 3) .nil))) (.cons (.v 4) .nil)))) (.cons (.not (.call i_are_hedges (.cons (.v 0) (.cons (.v 5) .nil)))) .nil))) (.cons (.ret (.bl false)) .nil) .nil) (.cons (.forr (.t (.cons (.n 6) (.cons (.n 7) .nil))) (.of (.call i_priced_lots (.cons (.ix (.v 0) (.int 2)) (.cons (.v 1) .nil)))) (.cons (.ite (.cmp .eq (.v 7) (.v 3)) (.cons (.ret (.bl true)) .nil) .nil) (.cons (.ite (.call i_is_met (.cons (.v 5) (.cons (.v 7) .nil))) (.cons (.ret (.bl false)) .nil) .nil) .nil))) (.cons (.ret (.bl false)) .nil))))))))
/-- less_one: thing, other -/
def PB_less_one : SL := (.cons (.ret (.ite (.cmp .gt (.v 1) (.v 0)) (.bin .sub (.v 1) (.int 1)) (.v 1))) .nil)
/-- check_hideable: drawing, value -/
def PB_check_hideable (i_check_thing : Nat) : SL := (.cons (.ex (.call i_check_thing (.cons (.v 0) (.cons (.v 1) .nil)))) (.cons (.ite (.cmp .lt (.ix (.v 0) (.int 0)) (.int 2)) (.cons .rse .nil) .nil) (.cons (.ret (.v 1)) .nil)))
/-- shown_so: thing, lot, other -/
def PB_shown_so (i_less_one : Nat) : SL := (.cons (.ret (.b1 .tuple (.comp (.n 2) (.of (.v 1)) .nil (.call i_less_one (.cons (.v 0) (.cons (.v 2) .nil)))))) .nil)
/-- hidden: drawing, thing -/
def PB_hidden (i_hidden_so i_check_hideable i_check_drawing : Nat) : SL := (.cons (.ex (.call i_check_drawing (.cons (.v 0) .nil))) (.cons (.ret (.call i_hidden_so (.cons (.v 0) (.cons (.call i_check_hideable (.cons (.v 0) (.cons (.v 1) .nil))) .nil)))) .nil))
/-- shown: thing, lot -/
def PB_shown (i_shown_so i_is_set g_MOST_NUMBER : Nat) : SL := (.cons (.ite (.not (.call i_is_set (.cons (.tup (.cons (.v 0) .nil)) (.cons (.gl g_MOST_NUMBER) .nil)))) (.cons .rse .nil) .nil) (.cons (.ite (.bop false (.cons (.not (.call i_is_set (.cons (.v 1) (.cons (.gl g_MOST_NUMBER) .nil)))) (.cons (.cmp .isin (.v 0) (.v 1)) .nil))) (.cons .rse .nil) .nil) (.cons (.ret (.call i_shown_so (.cons (.v 0) (.cons (.v 1) .nil)))) .nil)))
/-- sources_so: drawing, thing, sets, number, some, left -/
def PB_sources_so (i_causes_left i_sets_so : Nat) : SL := (.cons (.asg (.n 2) (.call i_sets_so (.cons (.v 0) (.cons (.v 1) .nil)))) (.cons (.ret (.comp (.n 5) (.of (.call i_causes_left (.cons (.v 0) (.cons (.v 1) .nil)))) .nil (.comp (.t (.cons (.n 3) (.cons (.n 4) .nil))) (.enum (.v 2)) (.cons (.cmp .eq (.v 4) (.v 5)) .nil) (.v 3)))) .nil))
/-- lcm_so: numbers, found, number -/
def PB_lcm_so (i_common_so : Nat) : SL := (.cons (.asg (.n 1) (.int 1)) (.cons (.forr (.n 2) (.of (.v 0)) (.cons (.asg (.n 1) (.bin .mul (.bin .fdiv (.v 1) (.call i_common_so (.cons (.v 1) (.cons (.v 2) .nil)))) (.v 2))) .nil)) (.cons (.ret (.v 1)) .nil)))
/-- check_great: number, most -/
def PB_check_great : SL := (.cons (.ite (.cmp .gt (.v 0) (.v 1)) (.cons .rse .nil) .nil) (.cons (.ret (.v 0)) .nil))
/-- value_at: weights, length, place, share, left, value, weight -/
def PB_value_at : SL := (.cons (.par [3, 4] (.cons (.bin .fdiv (.v 1) (.b1 .sum (.v 0))) (.cons (.v 2) .nil))) (.cons (.forr (.t (.cons (.n 5) (.cons (.n 6) .nil))) (.enum (.v 0)) (.cons (.asg (.n 4) (.bin .sub (.v 4) (.bin .mul (.v 6) (.v 3)))) (.cons (.ite (.cmp .lt (.v 4) (.int 0)) (.cons (.ret (.v 5)) .nil) .nil) .nil))) (.cons (.ret .non) .nil)))
/-- own_values: frame, values, ways, drawing, thing, sizes, hidden, tables, key, parent, cause, weights, value, weight -/
def PB_own_values (i_value_at i_place_so i_columns_so i_causes_so i_parents_so i_every_so : Nat) : SL := (.cons (.par [3, 4] (.cons (.ix (.v 0) (.str "drawing")) (.cons (.ix (.v 0) (.str "thing")) .nil))) (.cons (.asg (.t (.cons (.n 5) (.cons (.n 6) (.cons (.n 7) .nil)))) (.ix (.v 0) (.str "world"))) (.cons (.asg (.n 8) (.comp (.n 9) (.of (.call i_parents_so (.cons (.v 3) (.cons (.call i_every_so (.cons (.v 3) .nil)) (.cons (.v 4) .nil))))) .nil (.ix (.v 1) (.v 9)))) (.cons (.asg (.n 8) (.bin .add (.v 8) (.comp (.n 10) (.of (.call i_causes_so (.cons (.v 3) (.cons (.v 4) .nil)))) .nil (.ix (.v 2) (.v 10))))) (.cons (.asg (.n 11) (.ix (.ix (.v 7) (.v 4)) (.call i_place_so (.cons (.call i_columns_so (.cons (.v 3) (.cons (.v 5) (.cons (.v 6) (.cons (.v 4) .nil))))) (.cons (.v 8) .nil))))) (.cons (.ite (.cmp .gt (.b1 .len (.ix (.v 0) (.str "children"))) (.int 1)) (.cons (.ret (.lst (.cons (.tup (.cons (.int 1) (.cons (.call i_value_at (.cons (.v 11) (.cons (.ix (.v 0) (.str "length")) (.cons (.ix (.v 2) (.b1 .len (.v 6))) .nil)))) .nil))) .nil))) .nil) .nil) (.cons (.ret (.comp (.t (.cons (.n 12) (.cons (.n 13) .nil))) (.enum (.v 11)) (.cons (.cmp .gt (.v 13) (.int 0)) .nil) (.tup (.cons (.v 13) (.cons (.v 12) .nil))))) .nil)))))))
/-- row_weights: frame, other, values, ways, drawing, thing, sizes, hidden, tables, parents, found, columns, weight, value, key, parent, cause -/
def PB_row_weights (i_own_values i_place_so i_causes_so i_columns_so i_parents_so i_every_so : Nat) : SL := (.cons (.par [4, 5] (.cons (.ix (.v 0) (.str "drawing")) (.cons (.ix (.v 0) (.str "thing")) .nil))) (.cons (.asg (.t (.cons (.n 6) (.cons (.n 7) (.cons (.n 8) .nil)))) (.ix (.v 0) (.str "world"))) (.cons (.asg (.n 9) (.call i_parents_so (.cons (.v 4) (.cons (.call i_every_so (.cons (.v 4) .nil)) (.cons (.v 1) .nil))))) (.cons (.par [10, 11] (.cons (.lst .nil) (.cons (.call i_columns_so (.cons (.v 4) (.cons (.v 6) (.cons (.v 7) (.cons (.v 1) .nil))))) .nil))) (.cons (.forr (.t (.cons (.n 12) (.cons (.n 13) .nil))) (.of (.ite (.cmp .isin (.v 5) (.v 9)) (.call i_own_values (.cons (.v 0) (.cons (.v 2) (.cons (.v 3) .nil)))) (.lst (.cons (.tup (.cons (.int 1) (.cons .non .nil))) .nil)))) (.cons (.asg (.n 14) (.comp (.n 15) (.of (.v 9)) .nil (.ite (.cmp .eq (.v 15) (.v 5)) (.v 13) (.ix (.v 2) (.v 15))))) (.cons (.asg (.n 14) (.bin .add (.v 14) (.comp (.n 16) (.of (.call i_causes_so (.cons (.v 4) (.cons (.v 1) .nil)))) .nil (.ix (.v 3) (.v 16))))) (.cons (.app 10 (.tup (.cons (.v 12) (.cons (.ix (.ix (.v 8) (.v 1)) (.call i_place_so (.cons (.v 11) (.cons (.v 14) .nil)))) .nil)))) .nil)))) (.cons (.ret (.v 10)) .nil))))))
/-- alone_so: frame, other, sets, number, some -/
def PB_alone_so (i_sets_so : Nat) : SL := (.cons (.asg (.n 2) (.call i_sets_so (.cons (.ix (.v 0) (.str "drawing")) (.cons (.ix (.v 0) (.str "thing")) .nil)))) (.cons (.ret (.comp (.t (.cons (.n 3) (.cons (.n 4) .nil))) (.enum (.sl (.v 2) .nil (.cons (.neg (.int 1)) .nil))) (.cons (.cmp .eq (.v 4) (.tup (.cons (.v 1) .nil))) .nil) (.v 3))) .nil))
/-- levelled_so: groups, length, near, _far, _weight, pairs, found, weight, times, far -/
def PB_levelled_so (i_lcm_so : Nat) : SL := (.cons (.asg (.n 1) (.call i_lcm_so (.cons (.comp (.t (.cons (.n 4) (.cons (.n 5) .nil))) (.of (.v 0)) .nil (.b1 .sum (.comp (.t (.cons (.n 2) (.cons (.n 3) .nil))) (.of (.v 5)) .nil (.v 2)))) .nil))) (.cons (.asg (.n 6) (.lst .nil)) (.cons (.forr (.t (.cons (.n 7) (.cons (.n 5) .nil))) (.of (.v 0)) (.cons (.asg (.n 8) (.bin .mul (.v 7) (.bin .fdiv (.v 1) (.b1 .sum (.comp (.t (.cons (.n 2) (.cons (.n 3) .nil))) (.of (.v 5)) .nil (.v 2)))))) (.cons (.ext 6 (.comp (.t (.cons (.n 2) (.cons (.n 9) .nil))) (.of (.v 5)) .nil (.tup (.cons (.bin .mul (.v 8) (.v 2)) (.cons (.v 9) .nil))))) .nil))) (.cons (.ret (.v 6)) .nil))))
/-- weights_hidden: frame, some, found, parts, number, part -/
def PB_weights_hidden (i_mixed_so i_rows_so i_product_so : Nat) : SL := (.cons (.asg (.n 2) (.lst .nil)) (.cons (.forr (.n 3) (.of (.call i_rows_so (.cons (.comp (.n 4) (.of (.v 1)) .nil (.ix (.ix (.v 0) (.str "numbers")) (.v 4))) .nil))) (.cons (.app 2 (.call i_product_so (.cons (.comp (.t (.cons (.n 4) (.cons (.n 5) .nil))) (.zip (.v 1) (.v 3)) .nil (.ix (.ix (.ix (.v 0) (.str "weights")) (.v 4)) (.v 5))) .nil))) .nil)) (.cons (.ret (.call i_mixed_so (.cons (.lst (.cons (.tup (.cons (.int 1) (.cons (.v 2) .nil))) .nil)) .nil))) .nil)))
/-- world_hidden: drawing, world, thing, frame, others, other, weights, some, tables -/
def PB_world_hidden (i_table_hidden i_weights_hidden i_every_so i_framed_so i_hidden_so i_check_hideable i_check_world i_check_drawing : Nat) : SL := (.cons (.ex (.call i_check_world (.cons (.call i_check_drawing (.cons (.v 0) .nil)) (.cons (.v 1) .nil)))) (.cons (.ex (.call i_hidden_so (.cons (.v 0) (.cons (.call i_check_hideable (.cons (.v 0) (.cons (.v 2) .nil))) .nil)))) (.cons (.asg (.n 3) (.call i_framed_so (.cons (.v 0) (.cons (.v 1) (.cons (.v 2) .nil))))) (.cons (.asg (.n 4) (.comp (.n 5) (.of (.call i_every_so (.cons (.v 0) .nil))) (.cons (.cmp .ne (.v 5) (.v 2)) .nil) (.v 5))) (.cons (.asg (.n 6) (.b1 .tuple (.comp (.n 7) (.of (.ix (.v 3) (.str "sources"))) .nil (.call i_weights_hidden (.cons (.v 3) (.cons (.v 7) .nil)))))) (.cons (.asg (.n 8) (.b1 .tuple (.comp (.n 5) (.of (.v 4)) .nil (.call i_table_hidden (.cons (.v 3) (.cons (.v 5) .nil)))))) (.cons (.ret (.tup (.cons (.b1 .tuple (.comp (.n 5) (.of (.v 4)) .nil (.ix (.ix (.v 1) (.int 0)) (.v 5)))) (.cons (.v 6) (.cons (.v 8) .nil))))) .nil)))))))
/-- given_so: frame, number, place, some -/
def PB_given_so : SL := (.cons (.forr (.t (.cons (.n 2) (.cons (.n 3) .nil))) (.enum (.ix (.v 0) (.str "sources"))) (.cons (.ite (.cmp .eq (.ix (.v 3) (.int 0)) (.v 1)) (.cons (.ret (.v 2)) .nil) .nil) .nil)) (.cons (.ret .non) .nil))
/-- world_shown: drawing, world, thing, frame, sizes, tables, other, weights, place -/
def PB_world_shown (i_every_so i_own_table i_table_shown i_product_so i_less_one i_frame_shown i_check_world i_hidden_so i_check_hideable i_check_drawing : Nat) : SL := (.cons (.ex (.call i_check_drawing (.cons (.v 0) .nil))) (.cons (.ex (.call i_check_hideable (.cons (.v 0) (.cons (.v 2) .nil)))) (.cons (.ex (.call i_check_world (.cons (.call i_hidden_so (.cons (.v 0) (.cons (.v 2) .nil))) (.cons (.v 1) .nil)))) (.cons (.asg (.n 3) (.call i_frame_shown (.cons (.v 0) (.cons (.v 1) (.cons (.v 2) .nil))))) (.cons (.par [4, 5] (.cons (.lst .nil) (.cons (.lst .nil) .nil))) (.cons (.forr (.n 6) (.of (.call i_every_so (.cons (.v 0) .nil))) (.cons (.app 4 (.ite (.cmp .eq (.v 6) (.v 2)) (.call i_product_so (.cons (.ix (.v 3) (.str "columns")) .nil)) (.ix (.ix (.v 1) (.int 0)) (.call i_less_one (.cons (.v 2) (.cons (.v 6) .nil)))))) (.cons (.app 5 (.ite (.cmp .eq (.v 6) (.v 2)) (.call i_own_table (.cons (.v 3) .nil)) (.call i_table_shown (.cons (.v 3) (.cons (.v 6) .nil))))) .nil))) (.cons (.asg (.n 7) (.comp (.n 8) (.of (.sl (.ix (.v 3) (.str "places")) .nil (.cons (.neg (.int 1)) .nil))) .nil (.ite (.isN (.v 8)) (.tup (.cons (.int 1) .nil)) (.ix (.ix (.v 1) (.int 1)) (.v 8))))) (.cons (.ret (.tup (.cons (.b1 .tuple (.v 4)) (.cons (.b1 .tuple (.v 7)) (.cons (.b1 .tuple (.v 5)) .nil))))) .nil))))))))
/-- others_so: question -/
def PB_others_so (i_less_so i_things_so i_every_so : Nat) : SL := (.cons (.ret (.call i_less_so (.cons (.call i_every_so (.cons (.ix (.v 0) (.int 0)) .nil)) (.cons (.call i_things_so (.cons (.v 0) .nil)) .nil)))) .nil)
/-- without_so: question, denied, count, arrows, causes, near, number, arrow, far, cause -/
def PB_without_so : SL := (.cons (.asg (.t (.cons (.n 2) (.cons (.n 3) (.cons (.n 4) .nil)))) (.ix (.v 0) (.int 0))) (.cons (.asg (.n 5) (.b1 .tuple (.comp (.t (.cons (.n 6) (.cons (.n 7) .nil))) (.enum (.v 3)) (.cons (.cmp .notin (.tup (.cons (.str "arrow") (.cons (.v 6) .nil))) (.v 1)) .nil) (.v 7)))) (.cons (.asg (.n 8) (.b1 .tuple (.comp (.t (.cons (.n 6) (.cons (.n 9) .nil))) (.enum (.v 4)) (.cons (.cmp .notin (.tup (.cons (.str "cause") (.cons (.v 6) .nil))) (.v 1)) .nil) (.v 9)))) (.cons (.ret (.bin .add (.tup (.cons (.tup (.cons (.v 2) (.cons (.v 5) (.cons (.v 8) .nil)))) .nil)) (.sl (.v 0) (.cons (.int 1) .nil) .nil))) .nil))))
/-- watched_alone: question, lot -/
def PB_watched_alone (i_without_so i_less_so i_others_so : Nat) : SL := (.cons (.ret (.call i_without_so (.cons (.v 0) (.cons (.call i_less_so (.cons (.call i_others_so (.cons (.v 0) .nil)) (.cons (.v 1) .nil))) .nil)))) .nil)
/-- hidden_all: question, lot -/
def PB_hidden_all (i_without_so i_is_within i_check_lot i_others_so i_check_question : Nat) : SL := (.cons (.ex (.call i_check_question (.cons (.v 0) .nil))) (.cons (.ite (.not (.call i_is_within (.cons (.call i_others_so (.cons (.v 0) .nil)) (.cons (.call i_check_lot (.cons (.ix (.v 0) (.int 0)) (.cons (.v 1) .nil))) .nil)))) (.cons .rse .nil) .nil) (.cons (.ret (.call i_without_so (.cons (.v 0) (.cons (.v 1) .nil)))) .nil)))
/-- lots_of_others: question, prices, lots, _cost, lot -/
def PB_lots_of_others (i_watched_alone i_priced_lots i_others_so i_check_prices i_check_question : Nat) : SL := (.cons (.ex (.call i_check_question (.cons (.v 0) .nil))) (.cons (.ex (.call i_check_prices (.cons (.call i_others_so (.cons (.v 0) .nil)) (.cons (.v 1) .nil)))) (.cons (.asg (.n 2) (.comp (.t (.cons (.n 3) (.cons (.n 4) .nil))) (.of (.call i_priced_lots (.cons (.call i_others_so (.cons (.v 0) .nil)) (.cons (.v 1) .nil)))) .nil (.v 4))) (.cons (.forr (.n 4) (.of (.v 2)) (.cons (.ex (.call i_watched_alone (.cons (.v 0) (.cons (.v 4) .nil)))) .nil)) (.cons (.ret (.v 2)) .nil)))))
/-- denied_so: question, lot, hedge, thing, more, word, found -/
def PB_denied_so (i_others_so i_solve_so i_watched_alone : Nat) : SL := (.cons (.forr (.n 3) (.of (.call i_others_so (.cons (.v 0) .nil))) (.cons (.ite (.cmp .notin (.v 3) (.v 1)) (.cons (.asg (.n 4) (.b1 .tuple (.b1 .sorted (.bin .add (.v 1) (.tup (.cons (.v 3) .nil)))))) (.cons (.asg (.t (.cons (.n 5) (.cons (.n 6) .nil))) (.call i_solve_so (.cons (.call i_watched_alone (.cons (.v 0) (.cons (.v 4) .nil))) .nil))) (.cons (.ite (.cmp .eq (.v 5) (.str "not")) (.cons (.par [1, 2] (.cons (.v 4) (.cons (.v 6) .nil))) .nil) .nil) .nil))) .nil) .nil)) (.cons (.ret (.tup (.cons (.v 1) (.cons (.v 2) .nil)))) .nil))
/-- is_denied: denials, lot, less, _hedge -/
def PB_is_denied (i_is_within : Nat) : SL := (.cons (.ret (.cmp .gt (.b1 .len (.comp (.t (.cons (.n 2) (.cons (.n 3) .nil))) (.of (.v 0)) (.cons (.call i_is_within (.cons (.v 2) (.cons (.v 1) .nil))) .nil) (.int 1))) (.int 0))) .nil)
/-- cheapest_watch: question, prices, denials, lot, word, found -/
def PB_cheapest_watch (i_lots_of_others i_is_denied i_denied_so i_solve_so i_watched_alone : Nat) : SL := (.cons (.asg (.n 2) (.tup .nil)) (.cons (.forr (.n 3) (.of (.call i_lots_of_others (.cons (.v 0) (.cons (.v 1) .nil)))) (.cons (.ite (.not (.call i_is_denied (.cons (.v 2) (.cons (.v 3) .nil)))) (.cons (.asg (.t (.cons (.n 4) (.cons (.n 5) .nil))) (.call i_solve_so (.cons (.call i_watched_alone (.cons (.v 0) (.cons (.v 3) .nil))) .nil))) (.cons (.ite (.cmp .eq (.v 4) (.str "told")) (.cons (.ret (.tup (.cons (.v 3) (.cons (.v 5) (.cons (.v 2) .nil))))) .nil) .nil) (.cons (.asg (.n 2) (.bin .add (.v 2) (.tup (.cons (.call i_denied_so (.cons (.v 0) (.cons (.v 3) (.cons (.v 5) .nil)))) .nil)))) .nil))) .nil) .nil)) (.cons .rse .nil)))
/-- is_other_lot: question, value -/
def PB_is_other_lot (i_is_within i_others_so i_is_set : Nat) : SL := (.cons (.ret (.bop true (.cons (.call i_is_set (.cons (.v 1) (.cons (.bin .sub (.ix (.ix (.v 0) (.int 0)) (.int 0)) (.int 1)) .nil))) (.cons (.call i_is_within (.cons (.call i_others_so (.cons (.v 0) .nil)) (.cons (.v 1) .nil))) .nil)))) .nil)
/-- are_denials: question, value, item -/
def PB_are_denials (i_is_hedge i_watched_alone i_is_other_lot : Nat) : SL := (.cons (.ite (.not (.isi (.v 1) .tuple)) (.cons (.ret (.bl false)) .nil) .nil) (.cons (.forr (.n 2) (.of (.v 1)) (.cons (.ite (.bop false (.cons (.not (.isi (.v 2) .tuple)) (.cons (.cmp .ne (.b1 .len (.v 2)) (.int 2)) (.cons (.not (.call i_is_other_lot (.cons (.v 0) (.cons (.ix (.v 2) (.int 0)) .nil)))) .nil)))) (.cons (.ret (.bl false)) .nil) .nil) (.cons (.ite (.not (.call i_is_hedge (.cons (.call i_watched_alone (.cons (.v 0) (.cons (.ix (.v 2) (.int 0)) .nil))) (.cons (.ix (.v 2) (.int 1)) .nil)))) (.cons (.ret (.bl false)) .nil) .nil) .nil))) (.cons (.ret (.bl true)) .nil)))
/-- is_cheapest_watch: question, prices, value, lots, near, paper, denials, lot -/
def PB_is_cheapest_watch (i_is_denied i_are_denials i_is_paper i_watched_alone i_is_other_lot i_lots_of_others : Nat) : SL := (.cons (.asg (.n 3) (.call i_lots_of_others (.cons (.v 0) (.cons (.v 1) .nil)))) (.cons (.ite (.bop false (.cons (.not (.isi (.v 2) .tuple)) (.cons (.cmp .ne (.b1 .len (.v 2)) (.int 3)) (.cons (.not (.call i_is_other_lot (.cons (.v 0) (.cons (.ix (.v 2) (.int 0)) .nil)))) .nil)))) (.cons (.ret (.bl false)) .nil) .nil) (.cons (.asg (.t (.cons (.n 4) (.cons (.n 5) (.cons (.n 6) .nil)))) (.v 2)) (.cons (.ite (.bop false (.cons (.not (.call i_is_paper (.cons (.call i_watched_alone (.cons (.v 0) (.cons (.v 4) .nil))) (.cons (.v 5) .nil)))) (.cons (.not (.call i_are_denials (.cons (.v 0) (.cons (.v 6) .nil)))) .nil))) (.cons (.ret (.bl false)) .nil) .nil) (.cons (.forr (.n 7) (.of (.v 3)) (.cons (.ite (.cmp .eq (.v 7) (.v 4)) (.cons (.ret (.bl true)) .nil) .nil) (.cons (.ite (.not (.call i_is_denied (.cons (.v 6) (.cons (.v 7) .nil)))) (.cons (.ret (.bl false)) .nil) .nil) .nil))) (.cons (.ret (.bl false)) .nil))))))
/-- items_so: drawing, arrows, number -/
def PB_items_so : SL := (.cons (.asg (.n 1) (.comp (.n 2) (.rng1 (.b1 .len (.ix (.v 0) (.int 1)))) .nil (.tup (.cons (.str "arrow") (.cons (.v 2) .nil))))) (.cons (.ret (.b1 .tuple (.bin .add (.v 1) (.comp (.n 2) (.rng1 (.b1 .len (.ix (.v 0) (.int 2)))) .nil (.tup (.cons (.str "cause") (.cons (.v 2) .nil))))))) .nil))
/-- is_item: drawing, value -/
def PB_is_item (i_is_from : Nat) : SL := (.cons (.ite (.bop false (.cons (.not (.isi (.v 1) .tuple)) (.cons (.cmp .ne (.b1 .len (.v 1)) (.int 2)) (.cons (.not (.isi (.ix (.v 1) (.int 0)) .str)) .nil)))) (.cons (.ret (.bl false)) .nil) .nil) (.cons (.ite (.cmp .notin (.ix (.v 1) (.int 0)) (.tup (.cons (.str "arrow") (.cons (.str "cause") .nil)))) (.cons (.ret (.bl false)) .nil) .nil) (.cons (.ret (.call i_is_from (.cons (.ix (.v 1) (.int 1)) (.cons (.int 0) (.cons (.bin .sub (.b1 .len (.ix (.v 0) (.ite (.cmp .eq (.ix (.v 1) (.int 0)) (.str "arrow")) (.int 1) (.int 2)))) (.int 1)) .nil))))) .nil)))
/-- check_items_of: drawing, value -/
def PB_check_items_of (i_are_items : Nat) : SL := (.cons (.ite (.not (.call i_are_items (.cons (.v 0) (.cons (.v 1) .nil)))) (.cons .rse .nil) .nil) (.cons (.ret (.v 1)) .nil))
/-- check_order: drawing, value -/
def PB_check_order (i_check_items_of i_items_so : Nat) : SL := (.cons (.ite (.cmp .ne (.b1 .len (.call i_check_items_of (.cons (.v 0) (.cons (.v 1) .nil)))) (.b1 .len (.call i_items_so (.cons (.v 0) .nil)))) (.cons .rse .nil) .nil) (.cons (.ret (.v 1)) .nil))
/-- least_denials: question, order, denied, hedges, kept, item, less, other, word, found -/
def PB_least_denials (i_solve i_without_so i_check_order i_check_question : Nat) : SL := (.cons (.ex (.call i_check_question (.cons (.v 0) .nil))) (.cons (.par [2, 3] (.cons (.call i_check_order (.cons (.ix (.v 0) (.int 0)) (.cons (.v 1) .nil))) (.cons (.tup .nil) .nil))) (.cons (.asg (.n 4) (.ix (.call i_solve (.cons (.call i_without_so (.cons (.v 0) (.cons (.v 2) .nil))) .nil)) (.int 1))) (.cons (.forr (.n 5) (.of (.v 1)) (.cons (.asg (.n 6) (.b1 .tuple (.comp (.n 7) (.of (.v 2)) (.cons (.cmp .ne (.v 7) (.v 5)) .nil) (.v 7)))) (.cons (.asg (.t (.cons (.n 8) (.cons (.n 9) .nil))) (.call i_solve (.cons (.call i_without_so (.cons (.v 0) (.cons (.v 6) .nil))) .nil))) (.cons (.ite (.cmp .eq (.v 8) (.str "told")) (.cons (.par [2, 4] (.cons (.v 6) (.cons (.v 9) .nil))) .nil) (.cons (.asg (.n 3) (.bin .add (.v 3) (.tup (.cons (.v 9) .nil)))) .nil)) .nil)))) (.cons (.ret (.tup (.cons (.v 2) (.cons (.v 4) (.cons (.v 3) .nil))))) .nil)))))
/-- is_denials: question, order, value, denied, paper, hedges, item, hedge -/
def PB_is_denials (i_is_paper i_without_so i_is_hedge i_ahead_so i_are_items i_check_order i_check_question : Nat) : SL := (.cons (.ex (.call i_check_question (.cons (.v 0) .nil))) (.cons (.ex (.call i_check_order (.cons (.ix (.v 0) (.int 0)) (.cons (.v 1) .nil)))) (.cons (.ite (.bop false (.cons (.not (.isi (.v 2) .tuple)) (.cons (.cmp .ne (.b1 .len (.v 2)) (.int 3)) (.cons (.not (.call i_are_items (.cons (.ix (.v 0) (.int 0)) (.cons (.ix (.v 2) (.int 0)) .nil)))) .nil)))) (.cons (.ret (.bl false)) .nil) .nil) (.cons (.asg (.t (.cons (.n 3) (.cons (.n 4) (.cons (.n 5) .nil)))) (.v 2)) (.cons (.ite (.cmp .ne (.v 3) (.b1 .tuple (.comp (.n 6) (.of (.v 1)) (.cons (.cmp .isin (.v 6) (.v 3)) .nil) (.v 6)))) (.cons (.ret (.bl false)) .nil) .nil) (.cons (.ite (.bop false (.cons (.not (.isi (.v 5) .tuple)) (.cons (.cmp .ne (.b1 .len (.v 5)) (.b1 .len (.v 3))) .nil))) (.cons (.ret (.bl false)) .nil) .nil) (.cons (.forr (.t (.cons (.n 6) (.cons (.n 7) .nil))) (.zip (.v 3) (.v 5)) (.cons (.ite (.not (.call i_is_hedge (.cons (.call i_without_so (.cons (.v 0) (.cons (.call i_ahead_so (.cons (.v 1) (.cons (.v 3) (.cons (.v 6) .nil)))) .nil))) (.cons (.v 7) .nil)))) (.cons (.ret (.bl false)) .nil) .nil) .nil)) (.cons (.ret (.call i_is_paper (.cons (.call i_without_so (.cons (.v 0) (.cons (.v 3) .nil))) (.cons (.v 4) .nil)))) .nil))))))))
/-- items_of: drawing -/
def PB_items_of (i_items_so i_check_drawing : Nat) : SL := (.cons (.ret (.call i_items_so (.cons (.call i_check_drawing (.cons (.v 0) .nil)) .nil))) .nil)
/-- without: question, denied -/
def PB_without (i_without_so i_check_items_of i_check_question : Nat) : SL := (.cons (.ex (.call i_check_question (.cons (.v 0) .nil))) (.cons (.ret (.call i_without_so (.cons (.v 0) (.cons (.call i_check_items_of (.cons (.ix (.v 0) (.int 0)) (.cons (.v 1) .nil))) .nil)))) .nil))
/-- need_state: state, number, past -/
def PB_need_state (i_is_drawing g_MOST_PAST i_check_drawing : Nat) : SL := (.cons (.ite (.bop false (.cons (.not (.isi (.v 0) .tuple)) (.cons (.cmp .ne (.b1 .len (.v 0)) (.int 2)) .nil))) (.cons .rse .nil) .nil) (.cons (.ex (.call i_check_drawing (.cons (.ix (.v 0) (.int 0)) .nil))) (.cons (.ite (.bop false (.cons (.not (.isi (.ix (.v 0) (.int 1)) .tuple)) (.cons (.cmp .gt (.b1 .len (.ix (.v 0) (.int 1))) (.gl g_MOST_PAST)) .nil))) (.cons .rse .nil) .nil) (.cons (.forr (.t (.cons (.n 1) (.cons (.n 2) .nil))) (.enum (.ix (.v 0) (.int 1))) (.cons (.ite (.not (.call i_is_drawing (.cons (.v 2) .nil))) (.cons .rse .nil) .nil) .nil)) (.cons (.ret (.v 0)) .nil)))))
/-- begun: drawing -/
def PB_begun (i_check_drawing : Nat) : SL := (.cons (.ex (.call i_check_drawing (.cons (.v 0) .nil))) (.cons (.ret (.tup (.cons (.v 0) (.cons (.tup .nil) .nil)))) .nil))
/-- need_deed: deed, word, many -/
def PB_need_deed (g_WORDS : Nat) : SL := (.cons (.ite (.bop false (.cons (.not (.isi (.v 0) .tuple)) (.cons (.cmp .eq (.b1 .len (.v 0)) (.int 0)) (.cons (.not (.isi (.ix (.v 0) (.int 0)) .str)) .nil)))) (.cons .rse .nil) .nil) (.cons (.ite (.cmp .eq (.b1 .len (.comp (.t (.cons (.n 1) (.cons (.n 2) .nil))) (.of (.gl g_WORDS)) (.cons (.bop true (.cons (.cmp .eq (.v 1) (.ix (.v 0) (.int 0))) (.cons (.cmp .eq (.v 2) (.b1 .len (.v 0))) .nil))) .nil) (.int 1))) (.int 0)) (.cons .rse .nil) .nil) (.cons (.ret (.v 0)) .nil)))
/-- changed: items, item, more, good, other -/
def PB_changed : SL := (.cons (.ite (.bop false (.cons (.not (.v 3)) (.cons (.cmp .eq (.cmp .isin (.v 1) (.v 0)) (.v 2)) .nil))) (.cons .rse .nil) .nil) (.cons (.ite (.v 2) (.cons (.ret (.b1 .tuple (.b1 .sorted (.bin .add (.v 0) (.tup (.cons (.v 1) .nil)))))) .nil) .nil) (.cons (.ret (.b1 .tuple (.comp (.n 4) (.of (.v 0)) (.cons (.cmp .ne (.v 4) (.v 1)) .nil) (.v 4)))) .nil)))
/-- drawn: drawing, deed, count, arrows, causes, word, lots -/
def PB_drawn (g_MOST_CAUSES_sessions i_changed i_is_cause i_is_arrow i_hidden i_check_thing : Nat) : SL := (.cons (.asg (.t (.cons (.n 2) (.cons (.n 3) (.cons (.n 4) .nil)))) (.v 0)) (.cons (.asg (.n 5) (.ix (.v 1) (.int 0))) (.cons (.ite (.cmp .eq (.v 5) (.str "hide")) (.cons (.ret (.call i_hidden (.cons (.v 0) (.cons (.call i_check_thing (.cons (.v 0) (.cons (.ix (.v 1) (.int 1)) .nil))) .nil)))) .nil) .nil) (.cons (.ite (.cmp .isin (.v 5) (.tup (.cons (.str "arrow") (.cons (.str "unarrow") .nil)))) (.cons (.ret (.tup (.cons (.v 2) (.cons (.call i_changed (.cons (.v 3) (.cons (.sl (.v 1) (.cons (.int 1) .nil) .nil) (.cons (.cmp .eq (.v 5) (.str "arrow")) (.cons (.call i_is_arrow (.cons (.v 2) (.cons (.sl (.v 1) (.cons (.int 1) .nil) .nil) .nil))) .nil))))) (.cons (.v 4) .nil))))) .nil) .nil) (.cons (.asg (.n 6) (.call i_changed (.cons (.v 4) (.cons (.ix (.v 1) (.int 1)) (.cons (.cmp .eq (.v 5) (.str "cause")) (.cons (.call i_is_cause (.cons (.v 2) (.cons (.ix (.v 1) (.int 1)) .nil))) .nil)))))) (.cons (.ite (.cmp .gt (.b1 .len (.v 6)) (.gl g_MOST_CAUSES_sessions)) (.cons .rse .nil) .nil) (.cons (.ret (.tup (.cons (.v 2) (.cons (.v 3) (.cons (.v 6) .nil))))) .nil)))))))
/-- session_step: state, deed, told -/
def PB_session_step (g_MOST_PAST i_drawn i_solve i_need_deed i_need_state : Nat) : SL := (.cons (.ex (.call i_need_state (.cons (.v 0) .nil))) (.cons (.ex (.call i_need_deed (.cons (.v 1) .nil))) (.cons (.ite (.cmp .eq (.ix (.v 1) (.int 0)) (.str "undo")) (.cons (.ite (.cmp .eq (.b1 .len (.ix (.v 0) (.int 1))) (.int 0)) (.cons .rse .nil) .nil) (.cons (.ret (.tup (.cons (.tup (.cons (.ix (.ix (.v 0) (.int 1)) (.neg (.int 1))) (.cons (.sl (.ix (.v 0) (.int 1)) .nil (.cons (.neg (.int 1)) .nil)) .nil))) (.cons .non .nil)))) .nil)) .nil) (.cons (.ite (.cmp .eq (.ix (.v 1) (.int 0)) (.str "ask")) (.cons (.ret (.tup (.cons (.v 0) (.cons (.call i_solve (.cons (.bin .add (.tup (.cons (.ix (.v 0) (.int 0)) .nil)) (.sl (.v 1) (.cons (.int 1) .nil) .nil)) .nil)) .nil)))) .nil) .nil) (.cons (.asg (.n 2) (.call i_drawn (.cons (.ix (.v 0) (.int 0)) (.cons (.v 1) .nil)))) (.cons (.ite (.cmp .ge (.b1 .len (.ix (.v 0) (.int 1))) (.gl g_MOST_PAST)) (.cons .rse .nil) .nil) (.cons (.ret (.tup (.cons (.tup (.cons (.v 2) (.cons (.bin .add (.ix (.v 0) (.int 1)) (.tup (.cons (.ix (.v 0) (.int 0)) .nil))) .nil))) (.cons .non .nil)))) .nil)))))))
/-- played: drawing, deeds, state, answers, deed, answer -/
def PB_played (i_session_step i_begun : Nat) : SL := (.cons (.asg (.n 2) (.call i_begun (.cons (.v 0) .nil))) (.cons (.ite (.not (.isi (.v 1) .tuple)) (.cons .rse .nil) .nil) (.cons (.asg (.n 3) (.lst .nil)) (.cons (.forr (.n 4) (.of (.v 1)) (.cons (.asg (.t (.cons (.n 2) (.cons (.n 5) .nil))) (.call i_session_step (.cons (.v 2) (.cons (.v 4) .nil)))) (.cons (.app 3 (.v 5)) .nil))) (.cons (.ret (.tup (.cons (.v 2) (.cons (.b1 .tuple (.v 3)) .nil)))) .nil)))))
end DS

set_option Elab.async false
set_option linter.all false
set_option autoImplicit false
set_option maxRecDepth 100000
set_option maxHeartbeats 4000000
/-! DP0: the small language's runs in plain Lean: one law for each form. -/
namespace DS
open PySem PySem.Spec PySem.SeqAt PyProof.Rows L2
section
variable {fs : Fns} {gs : List W} {r : Env} {bw : Bool} {fu : Nat}
/-! ### forms -/
def stepC (fs : Fns) (gs : List W) (r : Env) (tg : Tg) (cs : EL) (elt : E) : W → M (Option PyData) := fun w => match asgT tg w (wipeE r tg.is) with
  | some r1 => (evC fs gs r1 cs).bind fun c => if c = true then (evE fs gs r1 false elt).bind fun y => (opt y.data?).bind fun x => .ret (some x) else .ret none
  | none => .stuck
def compR (fs : Fns) (gs : List W) (r : Env) (tg : Tg) (cs : EL) (elt : E) (ws : List W) : M W := if ws.length ≤ cap then (compM (stepC fs gs r tg cs elt) ws []).nox.bind fun ds => .ret (.d (.list ds)) else .stuck
def cmpK (op : Cop) (x y : W) : M W := (opt (cmpW op x y)).bind fun c => .ret (.b c)
def iteK (x : W) (a b : M W) : M W := (opt (wBool x)).bind fun k => if k = true then a else b
def notK (x : W) : M W := (opt (wBool x)).bind fun c => .ret (.b (!c))
def bopK (conj : Bool) (x : W) (rest : M W) : M W := (opt (wBool x)).bind fun c => if c = conj then rest else .ret (.b (!conj))
def tupK (ws : List W) : M W := match datas ws with
  | some ds => .ret (.d (.tuple ds))
  | none => .stuck
def lstK (ws : List W) : M W := match datas ws with
  | some ds => .ret (.d (.list ds))
  | none => .stuck
theorem v_v (i : Nat) : evE fs gs r bw (.v i) = getN r bw i := (rfl)
theorem v_non : evE fs gs r bw .non = .ret (.d .none) := (rfl)
theorem v_bl (b : Bool) : evE fs gs r bw (.bl b) = .ret (.b b) := (rfl)
theorem v_int (i : Int) : evE fs gs r bw (.int i) = .ret (.i i) := (rfl)
theorem v_str (s : Str) : evE fs gs r bw (.str s) = .ret (.d (.str s)) := (rfl)
theorem v_gl (j : Nat) : evE fs gs r bw (.gl j) = opt gs[j]? := by show (match gs[j]? with | some w => M.ret w | none => .stuck) = _; cases gs[j]? <;> rfl
theorem v_fn (f : Nat) : evE fs gs r bw (.fn f) = .ret (.fn f) := (rfl)
theorem v_tup (es : EL) : evE fs gs r bw (.tup es) = (evL fs gs r es).bind tupK := (rfl)
theorem v_lst (es : EL) : evE fs gs r bw (.lst es) = (evL fs gs r es).bind lstK := (rfl)
theorem v_dnew : evE fs gs r bw .dnew = .ret (.dK []) := (rfl)
theorem v_bin (op : Bop) (a b : E) : evE fs gs r bw (.bin op a b) = (evE fs gs r true a).bind fun x => (evE fs gs r true b).bind fun y => opt (binW op x y) := (rfl)
theorem v_neg (a : E) : evE fs gs r bw (.neg a) = (evE fs gs r false a).bind fun x => (opt (wInt x)).bind fun i => .ret (.i (-i)) := (rfl)
theorem v_cmp (op : Cop) (a b : E) : evE fs gs r bw (.cmp op a b) = (evE fs gs r true a).bind fun x => (evE fs gs r true b).bind fun y => cmpK op x y := (rfl)
theorem v_chain (p q : Cop) (a b c : E) : evE fs gs r bw (.chain p q a b c) = (evE fs gs r false a).bind fun x => (evE fs gs r false b).bind fun y => (opt (cmpW p x y)).bind fun k =>
      if k = true then (evE fs gs r false c).bind fun z => cmpK q y z else .ret (.b false) := (rfl)
theorem v_isN (a : E) : evE fs gs r bw (.isN a) = (evE fs gs r false a).bind fun x => .ret (.b (isNone x)) := (rfl)
theorem v_notN (a : E) : evE fs gs r bw (.notN a) = (evE fs gs r false a).bind fun x => .ret (.b (!isNone x)) := (rfl)
theorem v_bop (conj : Bool) (es : EL) : evE fs gs r bw (.bop conj es) = evB fs gs r conj es := (rfl)
theorem v_b1 (conj : Bool) (e : E) : evB fs gs r conj (.cons e .nil) = evE fs gs r false e := by simp [evB]
theorem v_b2 (conj : Bool) (e e2 : E) (es : EL) : evB fs gs r conj (.cons e (.cons e2 es)) = (evE fs gs r false e).bind fun x => bopK conj x (evB fs gs r conj (.cons e2 es)) := by simp [evB, bopK]
theorem v_not (a : E) : evE fs gs r bw (.not a) = (evE fs gs r false a).bind notK := (rfl)
theorem v_ite (c a b : E) : evE fs gs r bw (.ite c a b) = (evE fs gs r false c).bind fun x => iteK x (evE fs gs r false a) (evE fs gs r false b) := (rfl)
theorem v_ix (a i : E) : evE fs gs r bw (.ix a i) = (evE fs gs r true a).bind fun x => (evE fs gs r false i).bind fun y => opt (ixW x y) := (rfl)
theorem v_sl (a : E) (lo hi : EL) : evE fs gs r bw (.sl a lo hi) = (evE fs gs r true a).bind fun x => (evO fs gs r lo).bind fun l => (evO fs gs r hi).bind fun h => opt (slW x l h) := (rfl)
theorem v_call (f : Nat) (es : EL) : evE fs gs r bw (.call f es) = (evL fs gs r es).bind fun ws => applyF fs f ws := (rfl)
theorem v_callk (f np : Nat) (ks : List Str) (perm : List Nat) (es : EL) : evE fs gs r bw (.callk f np ks perm es) = (evL fs gs r es).bind fun ws => match permW ws perm with
    | some vs => applyF fs f vs
    | none => .stuck := (rfl)
theorem v_callv (i : Nat) (es : EL) : evE fs gs r bw (.callv i es) = (getN r false i).bind fun g => callW fs g fun f => (evL fs gs r es).bind fun ws => applyF fs f ws := (rfl)
theorem v_bi (b : B1) (a : E) : evE fs gs r bw (.b1 b a) = (evE fs gs r true a).bind fun x => opt (b1W b x) := (rfl)
theorem v_isi (a : E) (t : Ty) : evE fs gs r bw (.isi a t) = (evE fs gs r true a).bind fun x => (opt (isiW x t)).bind fun c => .ret (.b c) := (rfl)
theorem v_comp (tg : Tg) (it : It) (cs : EL) (elt : E) : evE fs gs r bw (.comp tg it cs elt) = (evI fs gs r it).bind (compR fs gs r tg cs elt) := (rfl)
theorem l_nil : evL fs gs r .nil = .ret [] := (rfl)
theorem l_cons (e : E) (es : EL) : evL fs gs r (.cons e es) = (evE fs gs r false e).bind fun w => (evL fs gs r es).bind fun ws => .ret (w :: ws) := (rfl)
theorem o_nil : evO fs gs r .nil = .ret none := (rfl)
theorem o_cons (e : E) (es : EL) : evO fs gs r (.cons e es) = (evE fs gs r false e).bind fun x => (opt (wInt x)).bind fun i => .ret (some i) := (rfl)
theorem c_nil' : evC fs gs r .nil = .ret true := (rfl)
theorem c_cons' (e : E) (es : EL) : evC fs gs r (.cons e es) = (evE fs gs r false e).bind fun x => opt (wBool x) := (rfl)
theorem i_of' (a : E) : evI fs gs r (.of a) = (evE fs gs r false a).bind fun x => opt (itOf x) := (rfl)
theorem i_rng1' (a : E) : evI fs gs r (.rng1 a) = (evE fs gs r false a).bind fun x => (opt (wInt x)).bind fun j => opt (itRng 0 j) := (rfl)
theorem i_rng2' (a b : E) : evI fs gs r (.rng2 a b) = (evE fs gs r false a).bind fun x => (evE fs gs r false b).bind fun y => (opt (wInt x)).bind fun i => (opt (wInt y)).bind fun j => opt (itRng i j) := (rfl)
theorem i_enum' (a : E) : evI fs gs r (.enum a) = (evE fs gs r false a).bind fun x => opt (itEnum x) := (rfl)
theorem i_zip' (a b : E) : evI fs gs r (.zip a b) = (evE fs gs r false a).bind fun x => (evE fs gs r false b).bind fun y => opt (itZip x y) := (rfl)
theorem i_rev' (a : E) : evI fs gs r (.rev a) = (evE fs gs r false a).bind fun x => opt (itRev x) := (rfl)
/-! ### statements -/
def seqK (fs : Fns) (gs : List W) (fu : Nat) (ss : SL) : Fl × Env → M (Fl × Env) := fun q => match q.1 with
  | .nx => evSL fs gs fu ss q.2
  | f => .ret (f, q.2)
@[simp] theorem seqK_nx (ss : SL) (r : Env) : seqK fs gs fu ss (.nx, r) = evSL fs gs fu ss r := (rfl)
@[simp] theorem seqK_rt (ss : SL) (r : Env) (w : W) : seqK fs gs fu ss (.rt w, r) = .ret (.rt w, r) := (rfl)
@[simp] theorem seqK_bk (ss : SL) (r : Env) : seqK fs gs fu ss (.bk, r) = .ret (.bk, r) := (rfl)
@[simp] theorem seqK_ct (ss : SL) (r : Env) : seqK fs gs fu ss (.ct, r) = .ret (.ct, r) := (rfl)
def finK : Fl × Env → M W := fun q => match q.1 with
  | .rt w => .ret w
  | .nx => .ret (.d .none)
  | _ => .stuck
@[simp] theorem finK_rt (r : Env) (w : W) : finK (.rt w, r) = .ret w := (rfl)
@[simp] theorem finK_nx (r : Env) : finK (.nx, r) = .ret (.d .none) := (rfl)
def iteS (x : W) (a b : M (Fl × Env)) : M (Fl × Env) := (opt (wBool x)).bind fun k => if k = true then a else b
def asgK (tg : Tg) (e : E) (r : Env) (w : W) : M (Fl × Env) := (opt (asgE tg e w r)).bind fun r1 => .ret (.nx, r1)
def parK (is : List Nat) (es : EL) (r : Env) (ws : List W) : M (Fl × Env) := (opt (parE is es ws r)).bind fun r1 => .ret (.nx, r1)
def forR (fs : Fns) (gs : List W) (fu : Nat) (tg : Tg) (body : SL) (r : Env) (ws : List W) : M (Fl × Env) := forM (fun w r1 => (opt (asgT tg w r1)).bind fun r2 => evSL fs gs fu body r2) ws r
theorem d_run (n np : Nat) (body : SL) (ws : List W) (h : ws.length = np) : evD fs gs fu n np body ws = (evSL fs gs fu body (ws.map .sh ++ List.replicate (n - np) .no)).bind finK := by unfold evD; rw [if_pos h]; rfl
theorem s_nil' : evSL fs gs fu .nil r = .ret (.nx, r) := (rfl)
theorem s_cons' (s : S) (ss : SL) : evSL fs gs fu (.cons s ss) r = (evS fs gs fu s r).bind (seqK fs gs fu ss) := (rfl)
theorem t_asg (tg : Tg) (e : E) : evS fs gs fu (.asg tg e) r = (evE fs gs (dem r (escE false e)) false e).bind (asgK tg e (dem r (escE false e))) := (rfl)
theorem t_par (is : List Nat) (es : EL) : evS fs gs fu (.par is es) r = (evL fs gs (dem r (escL es)) es).bind (parK is es (dem r (escL es))) := (rfl)
theorem t_ret (e : E) : evS fs gs fu (.ret e) r = (evE fs gs (dem r (escE false e)) false e).bind fun w => .ret (.rt w, dem r (escE false e)) := (rfl)
theorem t_retN : evS fs gs fu .retN r = .ret (.rt (.d .none), r) := (rfl)
theorem t_ite (c : E) (a b : SL) : evS fs gs fu (.ite c a b) r = (evE fs gs (dem r (escE false c)) false c).bind fun x => iteS x (evSL fs gs fu a (dem r (escE false c))) (evSL fs gs fu b (dem r (escE false c))) := (rfl)
theorem t_for (tg : Tg) (it : It) (body : SL) : evS fs gs fu (.forr tg it body) r = (evI fs gs (dem r (escI it)) it).bind (forR fs gs fu tg body (dem r (escI it))) := (rfl)
theorem t_ex (e : E) : evS fs gs fu (.ex e) r = (evE fs gs (dem r (escE false e)) false e).bind fun _ => .ret (.nx, dem r (escE false e)) := (rfl)
theorem t_put (i : Nat) (k e : E) : evS fs gs fu (.put i k e) r = (evE fs gs (dem r (escE false k ++ escE false e)) false e).bind fun x => match ownAt (dem r (escE false k ++ escE false e)) i with
    | some w => (evE fs gs (dem r (escE false k ++ escE false e)) false k).bind fun y => (opt (putW w y x)).bind fun w2 => .ret (.nx, (dem r (escE false k ++ escE false e)).set i (.ow w2))
    | none => .stuck := (rfl)
theorem t_app (i : Nat) (e : E) : evS fs gs fu (.app i e) r = match ownL (dem r (escE false e)) i with
    | some ds => (evE fs gs (dem r (escE false e)) false e).bind fun x => (opt (appD ds x)).bind fun w2 => .ret (.nx, (dem r (escE false e)).set i (.ow w2))
    | none => .stuck := (rfl)
theorem t_ext (i : Nat) (e : E) : evS fs gs fu (.ext i e) r = match ownL (dem r (escE false e)) i with
    | some ds => (evE fs gs (dem r (escE false e)) false e).bind fun x => (opt (extD ds x)).bind fun w2 => .ret (.nx, (dem r (escE false e)).set i (.ow w2))
    | none => .stuck := (rfl)
theorem t_brk : evS fs gs fu .brk r = .ret (.bk, r) := (rfl)
theorem t_cnt : evS fs gs fu .cnt r = .ret (.ct, r) := (rfl)
end
/-! ### lists -/
theorem compM_map {α : Type} {step : W → M (Option PyData)} (g : α → W) (f : α → Option PyData) : ∀ {xs : List α} {acc : List PyData}, (∀ x ∈ xs, step (g x) = .ret (f x)) → compM step (xs.map g) acc = .ret (acc ++ xs.filterMap f)
  | [], acc, _ => by simp [compM]
  | x :: xs, acc, h => by
    rw [List.map_cons, compM_cons, h x List.mem_cons_self, M.bind_ret]
    cases hf : f x with
    | none =>
      simp only [List.filterMap_cons, hf]
      exact compM_map g f fun w hw => h w (List.mem_cons_of_mem _ hw)
    | some y =>
      simp only [List.filterMap_cons, hf]
      rw [compM_map g f fun w hw => h w (List.mem_cons_of_mem _ hw), List.append_assoc]
      rfl
theorem compR_of {α : Type} {fs : Fns} {gs : List W} {r : Env} {tg : Tg} {cs : EL} {elt : E} (g : α → W) (f : α → Option PyData) {xs : List α} (hl : xs.length ≤ cap) (h : ∀ x ∈ xs, stepC fs gs r tg cs elt (g x) = .ret (f x)) : compR fs gs r tg cs elt (xs.map g) = .ret (.d (.list (xs.filterMap f))) := by
  unfold compR
  rw [if_pos (by rw [List.length_map]; exact hl), compM_map g f h]
  rfl
@[simp] theorem ordW_int (op : Cop) (a b : Int) : ordW op (W.d (.int a)) (W.d (.int b)) = some (intB op a b) := rfl
@[simp] theorem eqW_int (a b : Int) : eqW (W.d (.int a)) (W.d (.int b)) = some (decide (a = b)) := by
  show some (a == b) = _
  congr 1
theorem shaped_tints (ns : List Int) : shaped (.tuple (ns.map PyData.int)) = true := shaped_ints ns
theorem any_ints (a : Int) (xs : List Int) : ((xs.map PyData.int).any fun z => PyData.eqv z (.int a)) = decide (a ∈ xs) := by
  induction xs with
  | nil => rfl
  | cons x xs ih =>
    rw [List.map_cons, List.any_cons, ih]
    show (x == a || decide (a ∈ xs)) = decide (a ∈ x :: xs)
    by_cases h : x = a
    · subst h; simp
    · have h2 : a ≠ x := fun z => h z.symm
      simp [h, h2]
@[simp] theorem inW_tints (a : Int) (xs : List Int) : inW (W.d (.int a)) (W.d (.tuple (xs.map PyData.int))) = some (decide (a ∈ xs)) := by
  unfold inW
  dsimp only
  rw [if_pos ⟨rfl, shaped_tints xs⟩, any_ints]
@[simp] theorem inW_lints (a : Int) (xs : List Int) : inW (W.d (.int a)) (W.d (.list (xs.map PyData.int))) = some (decide (a ∈ xs)) := by
  unfold inW
  dsimp only
  rw [if_pos ⟨rfl, shaped_ints xs⟩, any_ints]
abbrev tI (xs : List Int) : W := .d (.tuple (xs.map PyData.int))
def prD (p : Int × Int) : PyData := .tuple [.int p.1, .int p.2]
def csD (c : List Int) : PyData := .tuple (c.map PyData.int)
abbrev drW (n : Int) (ar : List (Int × Int)) (cs : List (List Int)) : W := .d (.tuple [.int n, .tuple (ar.map prD), .tuple (cs.map csD)])
theorem is_from_int {fs : Fns} {gs : List W} {fu : Nat} (x lo hi : Int) : evD fs gs fu 3 3 PB_is_from [.i x, .i lo, .i hi] = .ret (.b (decide (lo ≤ x) && decide (x ≤ hi))) := by
  rw [d_run 3 3 _ _ rfl]
  by_cases h1 : lo ≤ x <;> by_cases h2 : x ≤ hi <;> simp [PB_is_from, v_v, v_non, v_bl, v_int, v_str, v_gl, v_fn, v_tup, v_lst, v_dnew, v_bin, v_neg, v_cmp, v_chain, v_isN, v_notN, v_bop, v_b1, v_b2, v_not, v_ite, v_ix, v_sl, v_call, v_callk, v_callv, v_bi, v_isi, v_comp, l_nil, l_cons, o_nil, o_cons, c_nil', c_cons', i_of', i_rng1', i_rng2', i_enum', i_zip', i_rev', s_nil', s_cons', t_asg, t_par, t_ret, t_retN, t_ite, t_for, t_ex, t_put, t_app, t_ext, t_brk, t_cnt, cmpK, iteK, notK, bopK, tupK, lstK, iteS, asgK, parK, escE, escL, escI, dem, dem1, getN, binW, addW, int2, b1W, lenW, tupleW, listW, intW, isiW, ixW, cmpW, wBool, wInt, isNone, asgE, asgT, asgTs, Tg.is, TgL.is, wipeE, fresh, isBox, datas, W.data?, opt_some, opt_none, M.bind_ret, M.bind_stuck, M.nox_ret, itOf, itEnum, itZip, itRev, ownAt, ownL, W.i, W.b, List.map_cons, List.map_nil, List.set, List.getElem?_cons_zero, List.getElem?_cons_succ, List.length_cons, List.length_nil, List.replicate, List.append_nil, List.nil_append, List.cons_append, ite_true, ite_false, Bool.false_eq_true, reduceCtorEq, if_true, if_false, seqK_nx, seqK_rt, seqK_bk, seqK_ct, finK_rt, finK_nx, intB, h1, h2]
/-- a loop with an invariant -/
theorem forR_inv {fs : Fns} {gs : List W} {fu : Nat} {tg : Tg} {body : SL} {ws : List W} (I : Nat → Env → Prop) {r : Env} (h0 : I 0 r)
    (hs : ∀ (i : Nat) w r, ws[i]? = some w → I i r → ∃ r2 r3, asgT tg w r = some r2 ∧ evSL fs gs fu body r2 = .ret (.nx, r3) ∧ I (i + 1) r3) : ∃ r', forR fs gs fu tg body r ws = .ret (.nx, r') ∧ I ws.length r' := by
  have go : ∀ (rest : List W) (i : Nat) (r : Env), i + rest.length = ws.length → (∀ j w, rest[j]? = some w → ws[i + j]? = some w) → I i r → ∃ r', forR fs gs fu tg body r rest = .ret (.nx, r') ∧ I ws.length r' := by
    intro rest
    induction rest with
    | nil =>
      intro i r hl _ hi
      have : i = ws.length := by simpa using hl
      exact ⟨r, rfl, this ▸ hi⟩
    | cons w rest ih =>
      intro i r hl hw hi
      obtain ⟨r2, r3, h1, h2, h3⟩ := hs i w r (by simpa using hw 0 w rfl) hi
      obtain ⟨r', g1, g2⟩ := ih (i + 1) r3 (by rw [List.length_cons] at hl; omega) (fun j u hj => by
        have := hw (j + 1) u (by simpa using hj)
        rw [show i + 1 + j = i + (j + 1) by omega]
        exact this) h3
      refine ⟨r', ?_, g2⟩
      unfold forR at g1 ⊢
      rw [forM_cons]
      simp only [h1, opt_some, M.bind_ret, h2]
      exact g1
  exact go ws 0 r (by simp) (fun j w h => by simpa using h) h0
theorem applyF_at {fs : Fns} {i : Nat} {F : List W → M W} {ws : List W} (h : fs[i]? = some F) : applyF fs i ws = F ws := by unfold applyF; rw [h]
end DS

set_option Elab.async false
set_option linter.all false
set_option autoImplicit false
set_option maxRecDepth 100000
set_option maxHeartbeats 4000000
/-! DP1: what the defs over drawings come to. -/
namespace DS
open PySem PySem.Spec PySem.SeqAt PyProof.Rows L2
section
variable {fs : Fns} {gs : List W} {fu : Nat}
def IsFrom (fs : Fns) (i : Nat) : Prop := ∀ x lo hi : Int, applyF fs i [.i x, .i lo, .i hi] = .ret (.b (decide (lo ≤ x) && decide (x ≤ hi)))
/-- in range, ascending -/
structure SetOk (m : Int) (xs : List Int) : Prop where
  rng : ∀ x ∈ xs, 0 ≤ x ∧ x ≤ m
  asc : xs.Pairwise (· < ·)
  few : xs.length ≤ cap
theorem asc_zip {xs : List Int} (h : xs.Pairwise (· < ·)) : ∀ p ∈ xs.zip xs.tail, p.1 < p.2 := by
  induction xs with
  | nil => intro p hp; simp at hp
  | cons x xs ih =>
    intro p hp
    cases xs with
    | nil => simp at hp
    | cons y ys =>
      rw [List.tail_cons, List.zip_cons_cons] at hp
      rcases List.mem_cons.mp hp with rfl | hp
      · exact (List.pairwise_cons.mp h).1 y List.mem_cons_self
      · exact ih (List.pairwise_cons.mp h).2 p hp
theorem zip_ints (xs ys : List Int) : ((xs.map PyData.int).zip (ys.map PyData.int)).map (fun p => W.d (.tuple [p.1, p.2])) = (xs.zip ys).map fun p => W.d (prD p) := by
  rw [List.zip_map, List.map_map]; rfl
theorem filterMap_none {α β : Type} {f : α → Option β} {xs : List α} (h : ∀ x ∈ xs, f x = none) : xs.filterMap f = [] := by
  rw [List.filterMap_eq_nil_iff]; exact h
theorem cut1 (ds : List PyData) : cutD ds (some 1) none = ds.drop 1 := by
  unfold cutD
  have e1 : HT.sIx ds.length 0 (some 1) = min 1 ds.length := HT.sIx_nat ds.length 0 1
  rw [e1, HT.sIx_none]
  cases ds with
  | nil => rfl
  | cons d ds =>
    have : min 1 (d :: ds).length = 1 := by simp
    rw [this]
    show List.take ((d :: ds).length - 1) ds = ds
    rw [List.length_cons, Nat.add_sub_cancel, List.take_length]
theorem is_set_ok {i : Nat} (hf : IsFrom fs i) {m : Int} {xs : List Int} (h : SetOk m xs) : evD fs gs fu 5 2 (PB_is_set i) [tI xs, .i m] = .ret (.b true) := by
  rw [d_run 5 2 _ _ rfl]
  simp [PB_is_set, v_v, v_non, v_bl, v_int, v_str, v_gl, v_fn, v_tup, v_lst, v_dnew, v_bin, v_neg, v_cmp, v_chain, v_isN, v_notN, v_bop, v_b1, v_b2, v_not, v_ite, v_ix, v_sl, v_call, v_callk, v_callv, v_bi, v_isi, v_comp, l_nil, l_cons, o_nil, o_cons, c_nil', c_cons', i_of', i_rng1', i_rng2', i_enum', i_zip', i_rev', s_nil', s_cons', t_asg, t_par, t_ret, t_retN, t_ite, t_for, t_ex, t_put, t_app, t_ext, t_brk, t_cnt, cmpK, iteK, notK, bopK, tupK, lstK, iteS, asgK, parK, escE, escL, escI, dem, dem1, getN, binW, addW, int2, b1W, lenW, tupleW, listW, intW, isiW, ixW, cmpW, wBool, wInt, isNone, asgE, asgT, asgTs, Tg.is, TgL.is, wipeE, fresh, isBox, datas, W.data?, opt_some, opt_none, M.bind_ret, M.bind_stuck, M.nox_ret, itOf, itEnum, itZip, itRev, ownAt, ownL, W.i, W.b, List.map_cons, List.map_nil, List.set, List.getElem?_cons_zero, List.getElem?_cons_succ, List.length_cons, List.length_nil, List.replicate, List.append_nil, List.nil_append, List.cons_append, ite_true, ite_false, Bool.false_eq_true, reduceCtorEq, if_true, if_false, seqK_nx, seqK_rt, seqK_bk, seqK_ct, finK_rt, finK_nx, tI]
  rw [compR_of (W.d ∘ PyData.int) (fun _ => none) h.few]
  · simp [v_v, v_non, v_bl, v_int, v_str, v_gl, v_fn, v_tup, v_lst, v_dnew, v_bin, v_neg, v_cmp, v_chain, v_isN, v_notN, v_bop, v_b1, v_b2, v_not, v_ite, v_ix, v_sl, v_call, v_callk, v_callv, v_bi, v_isi, v_comp, l_nil, l_cons, o_nil, o_cons, c_nil', c_cons', i_of', i_rng1', i_rng2', i_enum', i_zip', i_rev', s_nil', s_cons', t_asg, t_par, t_ret, t_retN, t_ite, t_for, t_ex, t_put, t_app, t_ext, t_brk, t_cnt, cmpK, iteK, notK, bopK, tupK, lstK, iteS, asgK, parK, escE, escL, escI, dem, dem1, getN, binW, addW, int2, b1W, lenW, tupleW, listW, intW, isiW, ixW, cmpW, wBool, wInt, isNone, asgE, asgT, asgTs, Tg.is, TgL.is, wipeE, fresh, isBox, datas, W.data?, opt_some, opt_none, M.bind_ret, M.bind_stuck, M.nox_ret, itOf, itEnum, itZip, itRev, ownAt, ownL, W.i, W.b, List.map_cons, List.map_nil, List.set, List.getElem?_cons_zero, List.getElem?_cons_succ, List.length_cons, List.length_nil, List.replicate, List.append_nil, List.nil_append, List.cons_append, ite_true, ite_false, Bool.false_eq_true, reduceCtorEq, if_true, if_false, seqK_nx, seqK_rt, seqK_bk, seqK_ct, finK_rt, finK_nx, slW, cut1, intB]
    rw [← List.map_tail, zip_ints, compR_of (fun p => W.d (prD p)) (fun _ => none)]
    · simp [v_v, v_non, v_bl, v_int, v_str, v_gl, v_fn, v_tup, v_lst, v_dnew, v_bin, v_neg, v_cmp, v_chain, v_isN, v_notN, v_bop, v_b1, v_b2, v_not, v_ite, v_ix, v_sl, v_call, v_callk, v_callv, v_bi, v_isi, v_comp, l_nil, l_cons, o_nil, o_cons, c_nil', c_cons', i_of', i_rng1', i_rng2', i_enum', i_zip', i_rev', s_nil', s_cons', t_asg, t_par, t_ret, t_retN, t_ite, t_for, t_ex, t_put, t_app, t_ext, t_brk, t_cnt, cmpK, iteK, notK, bopK, tupK, lstK, iteS, asgK, parK, escE, escL, escI, dem, dem1, getN, binW, addW, int2, b1W, lenW, tupleW, listW, intW, isiW, ixW, cmpW, wBool, wInt, isNone, asgE, asgT, asgTs, Tg.is, TgL.is, wipeE, fresh, isBox, datas, W.data?, opt_some, opt_none, M.bind_ret, M.bind_stuck, M.nox_ret, itOf, itEnum, itZip, itRev, ownAt, ownL, W.i, W.b, List.map_cons, List.map_nil, List.set, List.getElem?_cons_zero, List.getElem?_cons_succ, List.length_cons, List.length_nil, List.replicate, List.append_nil, List.nil_append, List.cons_append, ite_true, ite_false, Bool.false_eq_true, reduceCtorEq, if_true, if_false, seqK_nx, seqK_rt, seqK_bk, seqK_ct, finK_rt, finK_nx]
    · rw [List.length_zip]
      have := h.few
      omega
    · intro p hp
      have := asc_zip h.asc p hp
      simp [stepC, v_v, v_non, v_bl, v_int, v_str, v_gl, v_fn, v_tup, v_lst, v_dnew, v_bin, v_neg, v_cmp, v_chain, v_isN, v_notN, v_bop, v_b1, v_b2, v_not, v_ite, v_ix, v_sl, v_call, v_callk, v_callv, v_bi, v_isi, v_comp, l_nil, l_cons, o_nil, o_cons, c_nil', c_cons', i_of', i_rng1', i_rng2', i_enum', i_zip', i_rev', s_nil', s_cons', t_asg, t_par, t_ret, t_retN, t_ite, t_for, t_ex, t_put, t_app, t_ext, t_brk, t_cnt, cmpK, iteK, notK, bopK, tupK, lstK, iteS, asgK, parK, escE, escL, escI, dem, dem1, getN, binW, addW, int2, b1W, lenW, tupleW, listW, intW, isiW, ixW, cmpW, wBool, wInt, isNone, asgE, asgT, asgTs, Tg.is, TgL.is, wipeE, fresh, isBox, datas, W.data?, opt_some, opt_none, M.bind_ret, M.bind_stuck, M.nox_ret, itOf, itEnum, itZip, itRev, ownAt, ownL, W.i, W.b, List.map_cons, List.map_nil, List.set, List.getElem?_cons_zero, List.getElem?_cons_succ, List.length_cons, List.length_nil, List.replicate, List.append_nil, List.nil_append, List.cons_append, ite_true, ite_false, Bool.false_eq_true, reduceCtorEq, if_true, if_false, seqK_nx, seqK_rt, seqK_bk, seqK_ct, finK_rt, finK_nx, prD, intB, this]
  · intro x hx
    have := h.rng x hx
    have e : applyF fs i [W.d (PyData.int x), W.d (PyData.int 0), W.d (PyData.int m)] = _ := hf x 0 m
    simp [stepC, v_v, v_non, v_bl, v_int, v_str, v_gl, v_fn, v_tup, v_lst, v_dnew, v_bin, v_neg, v_cmp, v_chain, v_isN, v_notN, v_bop, v_b1, v_b2, v_not, v_ite, v_ix, v_sl, v_call, v_callk, v_callv, v_bi, v_isi, v_comp, l_nil, l_cons, o_nil, o_cons, c_nil', c_cons', i_of', i_rng1', i_rng2', i_enum', i_zip', i_rev', s_nil', s_cons', t_asg, t_par, t_ret, t_retN, t_ite, t_for, t_ex, t_put, t_app, t_ext, t_brk, t_cnt, cmpK, iteK, notK, bopK, tupK, lstK, iteS, asgK, parK, escE, escL, escI, dem, dem1, getN, binW, addW, int2, b1W, lenW, tupleW, listW, intW, isiW, ixW, cmpW, wBool, wInt, isNone, asgE, asgT, asgTs, Tg.is, TgL.is, wipeE, fresh, isBox, datas, W.data?, opt_some, opt_none, M.bind_ret, M.bind_stuck, M.nox_ret, itOf, itEnum, itZip, itRev, ownAt, ownL, W.i, W.b, List.map_cons, List.map_nil, List.set, List.getElem?_cons_zero, List.getElem?_cons_succ, List.length_cons, List.length_nil, List.replicate, List.append_nil, List.nil_append, List.cons_append, ite_true, ite_false, Bool.false_eq_true, reduceCtorEq, if_true, if_false, seqK_nx, seqK_rt, seqK_bk, seqK_ct, finK_rt, finK_nx, e, this]

/-! ### drawings -/
def ArrowOk (n : Int) (p : Int × Int) : Prop := 0 ≤ p.1 ∧ p.1 < p.2 ∧ p.2 ≤ n - 1
theorem is_arrow_ok {i : Nat} (hf : IsFrom fs i) {n : Int} {p : Int × Int} (h : ArrowOk n p) : evD fs gs fu 2 2 (PB_is_arrow i) [.i n, .d (prD p)] = .ret (.b true) := by
  rw [d_run 2 2 _ _ rfl]
  obtain ⟨a, b⟩ := p
  obtain ⟨h1, h2, h3⟩ := h
  have e1 : applyF fs i [W.d (PyData.int a), W.d (PyData.int 0), W.d (PyData.int (n - 1))] = _ := hf a 0 (n - 1)
  have e2 : applyF fs i [W.d (PyData.int b), W.d (PyData.int (a + 1)), W.d (PyData.int (n - 1))] = _ := hf b (a + 1) (n - 1)
  have a0 : atI [PyData.int a, PyData.int b] 0 = some (.int a) := rfl
  have a1 : atI [PyData.int a, PyData.int b] 1 = some (.int b) := rfl
  dsimp only at h1 h2 h3
  have h4 : a ≤ n - 1 := by omega
  have h5 : a + 1 ≤ b := by omega
  simp [PB_is_arrow, v_v, v_non, v_bl, v_int, v_str, v_gl, v_fn, v_tup, v_lst, v_dnew, v_bin, v_neg, v_cmp, v_chain, v_isN, v_notN, v_bop, v_b1, v_b2, v_not, v_ite, v_ix, v_sl, v_call, v_callk, v_callv, v_bi, v_isi, v_comp, l_nil, l_cons, o_nil, o_cons, c_nil', c_cons', i_of', i_rng1', i_rng2', i_enum', i_zip', i_rev', s_nil', s_cons', t_asg, t_par, t_ret, t_retN, t_ite, t_for, t_ex, t_put, t_app, t_ext, t_brk, t_cnt, cmpK, iteK, notK, bopK, tupK, lstK, iteS, asgK, parK, escE, escL, escI, dem, dem1, getN, binW, addW, int2, b1W, lenW, tupleW, listW, intW, isiW, ixW, cmpW, wBool, wInt, isNone, asgE, asgT, asgTs, Tg.is, TgL.is, wipeE, fresh, isBox, datas, W.data?, opt_some, opt_none, M.bind_ret, M.bind_stuck, M.nox_ret, itOf, itEnum, itZip, itRev, ownAt, ownL, W.i, W.b, List.map_cons, List.map_nil, List.set, List.getElem?_cons_zero, List.getElem?_cons_succ, List.length_cons, List.length_nil, List.replicate, List.append_nil, List.nil_append, List.cons_append, ite_true, ite_false, Bool.false_eq_true, reduceCtorEq, if_true, if_false, seqK_nx, seqK_rt, seqK_bk, seqK_ct, finK_rt, finK_nx, prD, e1, e2, a0, a1, h1, h3, h4, h5]
theorem is_within_ok {xs ys : List Int} (hl : ys.length ≤ cap) (h : ∀ y ∈ ys, y ∈ xs) : evD fs gs fu 3 2 PB_is_within [tI xs, tI ys] = .ret (.b true) := by
  rw [d_run 3 2 _ _ rfl]
  simp [PB_is_within, v_v, v_non, v_bl, v_int, v_str, v_gl, v_fn, v_tup, v_lst, v_dnew, v_bin, v_neg, v_cmp, v_chain, v_isN, v_notN, v_bop, v_b1, v_b2, v_not, v_ite, v_ix, v_sl, v_call, v_callk, v_callv, v_bi, v_isi, v_comp, l_nil, l_cons, o_nil, o_cons, c_nil', c_cons', i_of', i_rng1', i_rng2', i_enum', i_zip', i_rev', s_nil', s_cons', t_asg, t_par, t_ret, t_retN, t_ite, t_for, t_ex, t_put, t_app, t_ext, t_brk, t_cnt, cmpK, iteK, notK, bopK, tupK, lstK, iteS, asgK, parK, escE, escL, escI, dem, dem1, getN, binW, addW, int2, b1W, lenW, tupleW, listW, intW, isiW, ixW, cmpW, wBool, wInt, isNone, asgE, asgT, asgTs, Tg.is, TgL.is, wipeE, fresh, isBox, datas, W.data?, opt_some, opt_none, M.bind_ret, M.bind_stuck, M.nox_ret, itOf, itEnum, itZip, itRev, ownAt, ownL, W.i, W.b, List.map_cons, List.map_nil, List.set, List.getElem?_cons_zero, List.getElem?_cons_succ, List.length_cons, List.length_nil, List.replicate, List.append_nil, List.nil_append, List.cons_append, ite_true, ite_false, Bool.false_eq_true, reduceCtorEq, if_true, if_false, seqK_nx, seqK_rt, seqK_bk, seqK_ct, finK_rt, finK_nx, tI]
  rw [compR_of (W.d ∘ PyData.int) (fun _ => none) hl]
  · simp [v_v, v_non, v_bl, v_int, v_str, v_gl, v_fn, v_tup, v_lst, v_dnew, v_bin, v_neg, v_cmp, v_chain, v_isN, v_notN, v_bop, v_b1, v_b2, v_not, v_ite, v_ix, v_sl, v_call, v_callk, v_callv, v_bi, v_isi, v_comp, l_nil, l_cons, o_nil, o_cons, c_nil', c_cons', i_of', i_rng1', i_rng2', i_enum', i_zip', i_rev', s_nil', s_cons', t_asg, t_par, t_ret, t_retN, t_ite, t_for, t_ex, t_put, t_app, t_ext, t_brk, t_cnt, cmpK, iteK, notK, bopK, tupK, lstK, iteS, asgK, parK, escE, escL, escI, dem, dem1, getN, binW, addW, int2, b1W, lenW, tupleW, listW, intW, isiW, ixW, cmpW, wBool, wInt, isNone, asgE, asgT, asgTs, Tg.is, TgL.is, wipeE, fresh, isBox, datas, W.data?, opt_some, opt_none, M.bind_ret, M.bind_stuck, M.nox_ret, itOf, itEnum, itZip, itRev, ownAt, ownL, W.i, W.b, List.map_cons, List.map_nil, List.set, List.getElem?_cons_zero, List.getElem?_cons_succ, List.length_cons, List.length_nil, List.replicate, List.append_nil, List.nil_append, List.cons_append, ite_true, ite_false, Bool.false_eq_true, reduceCtorEq, if_true, if_false, seqK_nx, seqK_rt, seqK_bk, seqK_ct, finK_rt, finK_nx]
  · intro x hx
    simp [stepC, v_v, v_non, v_bl, v_int, v_str, v_gl, v_fn, v_tup, v_lst, v_dnew, v_bin, v_neg, v_cmp, v_chain, v_isN, v_notN, v_bop, v_b1, v_b2, v_not, v_ite, v_ix, v_sl, v_call, v_callk, v_callv, v_bi, v_isi, v_comp, l_nil, l_cons, o_nil, o_cons, c_nil', c_cons', i_of', i_rng1', i_rng2', i_enum', i_zip', i_rev', s_nil', s_cons', t_asg, t_par, t_ret, t_retN, t_ite, t_for, t_ex, t_put, t_app, t_ext, t_brk, t_cnt, cmpK, iteK, notK, bopK, tupK, lstK, iteS, asgK, parK, escE, escL, escI, dem, dem1, getN, binW, addW, int2, b1W, lenW, tupleW, listW, intW, isiW, ixW, cmpW, wBool, wInt, isNone, asgE, asgT, asgTs, Tg.is, TgL.is, wipeE, fresh, isBox, datas, W.data?, opt_some, opt_none, M.bind_ret, M.bind_stuck, M.nox_ret, itOf, itEnum, itZip, itRev, ownAt, ownL, W.i, W.b, List.map_cons, List.map_nil, List.set, List.getElem?_cons_zero, List.getElem?_cons_succ, List.length_cons, List.length_nil, List.replicate, List.append_nil, List.nil_append, List.cons_append, ite_true, ite_false, Bool.false_eq_true, reduceCtorEq, if_true, if_false, seqK_nx, seqK_rt, seqK_bk, seqK_ct, finK_rt, finK_nx, h x hx]
theorem less_so_ok {xs ys : List Int} (hl : xs.length ≤ cap) : evD fs gs fu 3 2 PB_less_so [tI xs, tI ys] = .ret (tI (xs.filter fun x => decide (x ∉ ys))) := by
  rw [d_run 3 2 _ _ rfl]
  simp [PB_less_so, v_v, v_non, v_bl, v_int, v_str, v_gl, v_fn, v_tup, v_lst, v_dnew, v_bin, v_neg, v_cmp, v_chain, v_isN, v_notN, v_bop, v_b1, v_b2, v_not, v_ite, v_ix, v_sl, v_call, v_callk, v_callv, v_bi, v_isi, v_comp, l_nil, l_cons, o_nil, o_cons, c_nil', c_cons', i_of', i_rng1', i_rng2', i_enum', i_zip', i_rev', s_nil', s_cons', t_asg, t_par, t_ret, t_retN, t_ite, t_for, t_ex, t_put, t_app, t_ext, t_brk, t_cnt, cmpK, iteK, notK, bopK, tupK, lstK, iteS, asgK, parK, escE, escL, escI, dem, dem1, getN, binW, addW, int2, b1W, lenW, tupleW, listW, intW, isiW, ixW, cmpW, wBool, wInt, isNone, asgE, asgT, asgTs, Tg.is, TgL.is, wipeE, fresh, isBox, datas, W.data?, opt_some, opt_none, M.bind_ret, M.bind_stuck, M.nox_ret, itOf, itEnum, itZip, itRev, ownAt, ownL, W.i, W.b, List.map_cons, List.map_nil, List.set, List.getElem?_cons_zero, List.getElem?_cons_succ, List.length_cons, List.length_nil, List.replicate, List.append_nil, List.nil_append, List.cons_append, ite_true, ite_false, Bool.false_eq_true, reduceCtorEq, if_true, if_false, seqK_nx, seqK_rt, seqK_bk, seqK_ct, finK_rt, finK_nx, tI]
  rw [compR_of (W.d ∘ PyData.int) (fun x => if x ∈ ys then none else some (.int x)) hl]
  · simp [v_v, v_non, v_bl, v_int, v_str, v_gl, v_fn, v_tup, v_lst, v_dnew, v_bin, v_neg, v_cmp, v_chain, v_isN, v_notN, v_bop, v_b1, v_b2, v_not, v_ite, v_ix, v_sl, v_call, v_callk, v_callv, v_bi, v_isi, v_comp, l_nil, l_cons, o_nil, o_cons, c_nil', c_cons', i_of', i_rng1', i_rng2', i_enum', i_zip', i_rev', s_nil', s_cons', t_asg, t_par, t_ret, t_retN, t_ite, t_for, t_ex, t_put, t_app, t_ext, t_brk, t_cnt, cmpK, iteK, notK, bopK, tupK, lstK, iteS, asgK, parK, escE, escL, escI, dem, dem1, getN, binW, addW, int2, b1W, lenW, tupleW, listW, intW, isiW, ixW, cmpW, wBool, wInt, isNone, asgE, asgT, asgTs, Tg.is, TgL.is, wipeE, fresh, isBox, datas, W.data?, opt_some, opt_none, M.bind_ret, M.bind_stuck, M.nox_ret, itOf, itEnum, itZip, itRev, ownAt, ownL, W.i, W.b, List.map_cons, List.map_nil, List.set, List.getElem?_cons_zero, List.getElem?_cons_succ, List.length_cons, List.length_nil, List.replicate, List.append_nil, List.nil_append, List.cons_append, ite_true, ite_false, Bool.false_eq_true, reduceCtorEq, if_true, if_false, seqK_nx, seqK_rt, seqK_bk, seqK_ct, finK_rt, finK_nx]
    induction xs with
    | nil => rfl
    | cons x xs ih =>
      have := ih (by rw [List.length_cons] at hl; omega)
      by_cases hx : x ∈ ys <;> simp [List.filterMap_cons, List.filter_cons, hx, this]
  · intro x hx
    by_cases h : x ∈ ys <;> simp [stepC, v_v, v_non, v_bl, v_int, v_str, v_gl, v_fn, v_tup, v_lst, v_dnew, v_bin, v_neg, v_cmp, v_chain, v_isN, v_notN, v_bop, v_b1, v_b2, v_not, v_ite, v_ix, v_sl, v_call, v_callk, v_callv, v_bi, v_isi, v_comp, l_nil, l_cons, o_nil, o_cons, c_nil', c_cons', i_of', i_rng1', i_rng2', i_enum', i_zip', i_rev', s_nil', s_cons', t_asg, t_par, t_ret, t_retN, t_ite, t_for, t_ex, t_put, t_app, t_ext, t_brk, t_cnt, cmpK, iteK, notK, bopK, tupK, lstK, iteS, asgK, parK, escE, escL, escI, dem, dem1, getN, binW, addW, int2, b1W, lenW, tupleW, listW, intW, isiW, ixW, cmpW, wBool, wInt, isNone, asgE, asgT, asgTs, Tg.is, TgL.is, wipeE, fresh, isBox, datas, W.data?, opt_some, opt_none, M.bind_ret, M.bind_stuck, M.nox_ret, itOf, itEnum, itZip, itRev, ownAt, ownL, W.i, W.b, List.map_cons, List.map_nil, List.set, List.getElem?_cons_zero, List.getElem?_cons_succ, List.length_cons, List.length_nil, List.replicate, List.append_nil, List.nil_append, List.cons_append, ite_true, ite_false, Bool.false_eq_true, reduceCtorEq, if_true, if_false, seqK_nx, seqK_rt, seqK_bk, seqK_ct, finK_rt, finK_nx, h]
/-- 0, 1, .. -/
def upto (n : Int) : List Int := (List.range n.toNat).map fun (k : Nat) => (k : Int)
theorem every_so_ok {n : Int} {ar : List (Int × Int)} {cs : List (List Int)} (h0 : 0 ≤ n) (h1 : n ≤ cap) : evD fs gs fu 1 1 PB_every_so [drW n ar cs] = .ret (tI (upto n)) := by
  rw [d_run 1 1 _ _ rfl]
  have a0 : atI [PyData.int n, PyData.tuple (ar.map prD), PyData.tuple (cs.map csD)] 0 = some (.int n) := rfl
  simp [PB_every_so, v_v, v_non, v_bl, v_int, v_str, v_gl, v_fn, v_tup, v_lst, v_dnew, v_bin, v_neg, v_cmp, v_chain, v_isN, v_notN, v_bop, v_b1, v_b2, v_not, v_ite, v_ix, v_sl, v_call, v_callk, v_callv, v_bi, v_isi, v_comp, l_nil, l_cons, o_nil, o_cons, c_nil', c_cons', i_of', i_rng1', i_rng2', i_enum', i_zip', i_rev', s_nil', s_cons', t_asg, t_par, t_ret, t_retN, t_ite, t_for, t_ex, t_put, t_app, t_ext, t_brk, t_cnt, cmpK, iteK, notK, bopK, tupK, lstK, iteS, asgK, parK, escE, escL, escI, dem, dem1, getN, binW, addW, int2, b1W, lenW, tupleW, listW, intW, isiW, ixW, cmpW, wBool, wInt, isNone, asgE, asgT, asgTs, Tg.is, TgL.is, wipeE, fresh, isBox, datas, W.data?, opt_some, opt_none, M.bind_ret, M.bind_stuck, M.nox_ret, itOf, itEnum, itZip, itRev, ownAt, ownL, W.i, W.b, List.map_cons, List.map_nil, List.set, List.getElem?_cons_zero, List.getElem?_cons_succ, List.length_cons, List.length_nil, List.replicate, List.append_nil, List.nil_append, List.cons_append, ite_true, ite_false, Bool.false_eq_true, reduceCtorEq, if_true, if_false, seqK_nx, seqK_rt, seqK_bk, seqK_ct, finK_rt, finK_nx, drW, a0, rangeW, h0, h1, upto, tI]
/-- the things that an arrow of x leads to -/
def outs (ar : List (Int × Int)) (lot : List Int) (x : Int) : List Int := ar.filterMap fun p => if p.1 = x ∧ p.2 ∈ lot then some p.2 else none
theorem children_so_ok {n x : Int} {ar : List (Int × Int)} {cs : List (List Int)} {lot : List Int} (hl : ar.length ≤ cap) : evD fs gs fu 5 3 PB_children_so [drW n ar cs, tI lot, .i x] = .ret (tI (outs ar lot x)) := by
  rw [d_run 5 3 _ _ rfl]
  have a1 : atI [PyData.int n, PyData.tuple (ar.map prD), PyData.tuple (cs.map csD)] 1 = some (.tuple (ar.map prD)) := rfl
  simp [PB_children_so, v_v, v_non, v_bl, v_int, v_str, v_gl, v_fn, v_tup, v_lst, v_dnew, v_bin, v_neg, v_cmp, v_chain, v_isN, v_notN, v_bop, v_b1, v_b2, v_not, v_ite, v_ix, v_sl, v_call, v_callk, v_callv, v_bi, v_isi, v_comp, l_nil, l_cons, o_nil, o_cons, c_nil', c_cons', i_of', i_rng1', i_rng2', i_enum', i_zip', i_rev', s_nil', s_cons', t_asg, t_par, t_ret, t_retN, t_ite, t_for, t_ex, t_put, t_app, t_ext, t_brk, t_cnt, cmpK, iteK, notK, bopK, tupK, lstK, iteS, asgK, parK, escE, escL, escI, dem, dem1, getN, binW, addW, int2, b1W, lenW, tupleW, listW, intW, isiW, ixW, cmpW, wBool, wInt, isNone, asgE, asgT, asgTs, Tg.is, TgL.is, wipeE, fresh, isBox, datas, W.data?, opt_some, opt_none, M.bind_ret, M.bind_stuck, M.nox_ret, itOf, itEnum, itZip, itRev, ownAt, ownL, W.i, W.b, List.map_cons, List.map_nil, List.set, List.getElem?_cons_zero, List.getElem?_cons_succ, List.length_cons, List.length_nil, List.replicate, List.append_nil, List.nil_append, List.cons_append, ite_true, ite_false, Bool.false_eq_true, reduceCtorEq, if_true, if_false, seqK_nx, seqK_rt, seqK_bk, seqK_ct, finK_rt, finK_nx, drW, a1, tI]
  rw [compR_of (W.d ∘ prD) (fun p => if p.1 = x ∧ p.2 ∈ lot then some (.int p.2) else none) hl]
  · simp [v_v, v_non, v_bl, v_int, v_str, v_gl, v_fn, v_tup, v_lst, v_dnew, v_bin, v_neg, v_cmp, v_chain, v_isN, v_notN, v_bop, v_b1, v_b2, v_not, v_ite, v_ix, v_sl, v_call, v_callk, v_callv, v_bi, v_isi, v_comp, l_nil, l_cons, o_nil, o_cons, c_nil', c_cons', i_of', i_rng1', i_rng2', i_enum', i_zip', i_rev', s_nil', s_cons', t_asg, t_par, t_ret, t_retN, t_ite, t_for, t_ex, t_put, t_app, t_ext, t_brk, t_cnt, cmpK, iteK, notK, bopK, tupK, lstK, iteS, asgK, parK, escE, escL, escI, dem, dem1, getN, binW, addW, int2, b1W, lenW, tupleW, listW, intW, isiW, ixW, cmpW, wBool, wInt, isNone, asgE, asgT, asgTs, Tg.is, TgL.is, wipeE, fresh, isBox, datas, W.data?, opt_some, opt_none, M.bind_ret, M.bind_stuck, M.nox_ret, itOf, itEnum, itZip, itRev, ownAt, ownL, W.i, W.b, List.map_cons, List.map_nil, List.set, List.getElem?_cons_zero, List.getElem?_cons_succ, List.length_cons, List.length_nil, List.replicate, List.append_nil, List.nil_append, List.cons_append, ite_true, ite_false, Bool.false_eq_true, reduceCtorEq, if_true, if_false, seqK_nx, seqK_rt, seqK_bk, seqK_ct, finK_rt, finK_nx, outs, List.map_filterMap]
  · intro p hp
    by_cases h : p.1 = x <;> by_cases h2 : p.2 ∈ lot <;> simp [stepC, v_v, v_non, v_bl, v_int, v_str, v_gl, v_fn, v_tup, v_lst, v_dnew, v_bin, v_neg, v_cmp, v_chain, v_isN, v_notN, v_bop, v_b1, v_b2, v_not, v_ite, v_ix, v_sl, v_call, v_callk, v_callv, v_bi, v_isi, v_comp, l_nil, l_cons, o_nil, o_cons, c_nil', c_cons', i_of', i_rng1', i_rng2', i_enum', i_zip', i_rev', s_nil', s_cons', t_asg, t_par, t_ret, t_retN, t_ite, t_for, t_ex, t_put, t_app, t_ext, t_brk, t_cnt, cmpK, iteK, notK, bopK, tupK, lstK, iteS, asgK, parK, escE, escL, escI, dem, dem1, getN, binW, addW, int2, b1W, lenW, tupleW, listW, intW, isiW, ixW, cmpW, wBool, wInt, isNone, asgE, asgT, asgTs, Tg.is, TgL.is, wipeE, fresh, isBox, datas, W.data?, opt_some, opt_none, M.bind_ret, M.bind_stuck, M.nox_ret, itOf, itEnum, itZip, itRev, ownAt, ownL, W.i, W.b, List.map_cons, List.map_nil, List.set, List.getElem?_cons_zero, List.getElem?_cons_succ, List.length_cons, List.length_nil, List.replicate, List.append_nil, List.nil_append, List.cons_append, ite_true, ite_false, Bool.false_eq_true, reduceCtorEq, if_true, if_false, seqK_nx, seqK_rt, seqK_bk, seqK_ct, finK_rt, finK_nx, prD, h, h2]

/-! ### checks -/
def Ascend (ds : List PyData) : Prop := ∀ (i : Nat) d e, ds[i]? = some d → ds[i + 1]? = some e → ordW .ge (.d d) (.d e) = some false
theorem atI_nat {α : Type} {ds : List α} {i : Nat} {d : α} (h : ds[i]? = some d) : atI ds (i : Int) = some d := by
  have hi := get_lt' h
  unfold atI ixN
  rw [if_pos (by omega), if_pos (by omega)]
  show ds[(i : Int).toNat]? = some d
  rw [Int.toNat_natCast]
  exact h
theorem check_items_ok {j : Nat} {n : Int} {ds : List PyData} {pl : W} (hj : j < fs.length) (hd : ∀ d ∈ ds, applyF fs j [.i n, .d d] = .ret (.b true)) (ha : Ascend ds) : evD fs gs fu 6 4 PB_check_items [.i n, .d (.tuple ds), pl, .fn j] = .ret (.d .none) := by
  rw [d_run 6 4 _ _ rfl]
  obtain ⟨r', h1, _⟩ := forR_inv (fs := fs) (gs := gs) (fu := fu) (tg := .t (.cons (.n 4) (.cons (.n 5) .nil))) (ws := enumD ds)
    (body := (.cons (.ite (.bop false (.cons (.not (.callv 3 (.cons (.v 0) (.cons (.v 5) .nil)))) (.cons (.bop true (.cons (.cmp .gt (.v 4) (.int 0)) (.cons (.cmp .ge (.ix (.v 1) (.bin .sub (.v 4) (.int 1))) (.v 5)) .nil))) .nil))) (.cons .rse .nil) .nil) .nil))
    (fun i r => ∃ c4 c5, r = [.sh (.i n), .sh (.d (.tuple ds)), .sh pl, .sh (.fn j), c4, c5]) (r := [.sh (.i n), .sh (.d (.tuple ds)), .sh pl, .sh (.fn j), .no, .no]) ⟨_, _, rfl⟩ (fun i w r hw ⟨c4, c5, hr⟩ => by
      subst hr
      rw [enum_get] at hw
      cases hd2 : ds[i]? with
      | none => rw [hd2] at hw; cases hw
      | some d =>
        rw [hd2] at hw
        cases hw
        refine ⟨[.sh (.i n), .sh (.d (.tuple ds)), .sh pl, .sh (.fn j), .sh (.i i), .sh (.d d)], [.sh (.i n), .sh (.d (.tuple ds)), .sh pl, .sh (.fn j), .sh (.i i), .sh (.d d)], rfl, ?_, _, _, rfl⟩
        have e1 : applyF fs j [W.d (PyData.int n), W.d d] = _ := hd d (List.mem_of_getElem? hd2)
        cases i with
        | zero => simp [v_v, v_non, v_bl, v_int, v_str, v_gl, v_fn, v_tup, v_lst, v_dnew, v_bin, v_neg, v_cmp, v_chain, v_isN, v_notN, v_bop, v_b1, v_b2, v_not, v_ite, v_ix, v_sl, v_call, v_callk, v_callv, v_bi, v_isi, v_comp, l_nil, l_cons, o_nil, o_cons, c_nil', c_cons', i_of', i_rng1', i_rng2', i_enum', i_zip', i_rev', s_nil', s_cons', t_asg, t_par, t_ret, t_retN, t_ite, t_for, t_ex, t_put, t_app, t_ext, t_brk, t_cnt, cmpK, iteK, notK, bopK, tupK, lstK, iteS, asgK, parK, escE, escL, escI, dem, dem1, getN, binW, addW, int2, b1W, lenW, tupleW, listW, intW, isiW, ixW, cmpW, wBool, wInt, isNone, asgE, asgT, asgTs, Tg.is, TgL.is, wipeE, fresh, isBox, datas, W.data?, opt_some, opt_none, M.bind_ret, M.bind_stuck, M.nox_ret, itOf, itEnum, itZip, itRev, ownAt, ownL, W.i, W.b, List.map_cons, List.map_nil, List.set, List.getElem?_cons_zero, List.getElem?_cons_succ, List.length_cons, List.length_nil, List.replicate, List.append_nil, List.nil_append, List.cons_append, ite_true, ite_false, Bool.false_eq_true, reduceCtorEq, if_true, if_false, seqK_nx, seqK_rt, seqK_bk, seqK_ct, finK_rt, finK_nx, callW, hj, e1, intB]
        | succ i =>
          obtain ⟨e, he⟩ : ∃ e, ds[i]? = some e := ⟨_, List.getElem?_eq_getElem (by have := get_lt' hd2; omega)⟩
          have e2 : atI ds (i : Int) = some e := atI_nat he
          have e3 := ha i e d he hd2
          have e4 : (0 : Int) < (i : Int) + 1 := by omega
          simp [v_v, v_non, v_bl, v_int, v_str, v_gl, v_fn, v_tup, v_lst, v_dnew, v_bin, v_neg, v_cmp, v_chain, v_isN, v_notN, v_bop, v_b1, v_b2, v_not, v_ite, v_ix, v_sl, v_call, v_callk, v_callv, v_bi, v_isi, v_comp, l_nil, l_cons, o_nil, o_cons, c_nil', c_cons', i_of', i_rng1', i_rng2', i_enum', i_zip', i_rev', s_nil', s_cons', t_asg, t_par, t_ret, t_retN, t_ite, t_for, t_ex, t_put, t_app, t_ext, t_brk, t_cnt, cmpK, iteK, notK, bopK, tupK, lstK, iteS, asgK, parK, escE, escL, escI, dem, dem1, getN, binW, addW, int2, b1W, lenW, tupleW, listW, intW, isiW, ixW, cmpW, wBool, wInt, isNone, asgE, asgT, asgTs, Tg.is, TgL.is, wipeE, fresh, isBox, datas, W.data?, opt_some, opt_none, M.bind_ret, M.bind_stuck, M.nox_ret, itOf, itEnum, itZip, itRev, ownAt, ownL, W.i, W.b, List.map_cons, List.map_nil, List.set, List.getElem?_cons_zero, List.getElem?_cons_succ, List.length_cons, List.length_nil, List.replicate, List.append_nil, List.nil_append, List.cons_append, ite_true, ite_false, Bool.false_eq_true, reduceCtorEq, if_true, if_false, seqK_nx, seqK_rt, seqK_bk, seqK_ct, finK_rt, finK_nx, callW, hj, e1, intB, e2, e3, e4])
  simp [PB_check_items, v_v, v_non, v_bl, v_int, v_str, v_gl, v_fn, v_tup, v_lst, v_dnew, v_bin, v_neg, v_cmp, v_chain, v_isN, v_notN, v_bop, v_b1, v_b2, v_not, v_ite, v_ix, v_sl, v_call, v_callk, v_callv, v_bi, v_isi, v_comp, l_nil, l_cons, o_nil, o_cons, c_nil', c_cons', i_of', i_rng1', i_rng2', i_enum', i_zip', i_rev', s_nil', s_cons', t_asg, t_par, t_ret, t_retN, t_ite, t_for, t_ex, t_put, t_app, t_ext, t_brk, t_cnt, cmpK, iteK, notK, bopK, tupK, lstK, iteS, asgK, parK, escE, escL, escI, dem, dem1, getN, binW, addW, int2, b1W, lenW, tupleW, listW, intW, isiW, ixW, cmpW, wBool, wInt, isNone, asgE, asgT, asgTs, Tg.is, TgL.is, wipeE, fresh, isBox, datas, W.data?, opt_some, opt_none, M.bind_ret, M.bind_stuck, M.nox_ret, itOf, itEnum, itZip, itRev, ownAt, ownL, W.i, W.b, List.map_cons, List.map_nil, List.set, List.getElem?_cons_zero, List.getElem?_cons_succ, List.length_cons, List.length_nil, List.replicate, List.append_nil, List.nil_append, List.cons_append, ite_true, ite_false, Bool.false_eq_true, reduceCtorEq, if_true, if_false, seqK_nx, seqK_rt, seqK_bk, seqK_ct, finK_rt, finK_nx]
  simp only [W.i] at h1
  rw [h1]
  rfl
theorem ord_pair {p q : Int × Int} (h : p.1 < q.1 ∨ (p.1 = q.1 ∧ p.2 < q.2)) : ordW .ge (.d (prD p)) (.d (prD q)) = some false := by
  obtain ⟨a, b⟩ := p
  obtain ⟨c, d⟩ := q
  dsimp only at h
  show (if shaped (prD (a, b)) = true ∧ shaped (prD (c, d)) = true then ordD .ge (prD (a, b)) (prD (c, d)) else none) = _
  rw [if_pos ⟨rfl, rfl⟩]
  rcases h with h | ⟨h1, h2⟩
  · have : a ≠ c := by omega
    have h4 : ¬ c ≤ a := by omega
    by_cases hb : b = d <;> simp [prD, ordD, ordDs, PyData.eqv, this, hb, intB, szB, h4]
  · have h3 : b ≠ d := by omega
    have h4 : ¬ d ≤ b := by omega
    simp [prD, ordD, ordDs, PyData.eqv, h1, h3, intB, h4]
/-- arrows one may draw -/
structure ArOk (n : Int) (ar : List (Int × Int)) : Prop where
  ok : ∀ p ∈ ar, ArrowOk n p
  asc : ar.Pairwise fun p q => p.1 < q.1 ∨ (p.1 = q.1 ∧ p.2 < q.2)
  few : ar.length ≤ cap
theorem ar_ascend {n : Int} {ar : List (Int × Int)} (h : ArOk n ar) : Ascend (ar.map prD) := by
  intro i d e h1 h2
  rw [List.getElem?_map] at h1 h2
  cases q1 : ar[i]? with
  | none => rw [q1] at h1; cases h1
  | some p =>
    cases q2 : ar[i + 1]? with
    | none => rw [q2] at h2; cases h2
    | some q =>
      rw [q1] at h1; rw [q2] at h2
      cases h1; cases h2
      have l2 := get_lt' q2
      have l1 := get_lt' q1
      have := List.pairwise_iff_getElem.mp h.asc i (i + 1) l1 l2 (by omega)
      rw [List.getElem?_eq_getElem l1] at q1
      rw [List.getElem?_eq_getElem l2] at q2
      cases q1; cases q2
      exact ord_pair this

/-- a drawing without hidden causes -/
theorem check_drawing_ok {ii ic ia jf gc gt : Nat} {n : Int} {ar : List (Int × Int)} {cs : List (List Int)} (hf : IsFrom fs jf) (hgt : gs[gt]? = some (.i 10)) (hgc : gs[gc]? = some (.i 20)) (h0 : 1 ≤ n) (h1 : n ≤ 10) (hc : cs.length ≤ 20)
    (hi1 : applyF fs ii [.i n, .d (.tuple (ar.map prD)), .i 1, .fn ia] = .ret (.d .none)) (hi2 : applyF fs ii [.i n, .d (.tuple (cs.map csD)), .i 2, .fn ic] = .ret (.d .none)) :
    evD fs gs fu 4 1 (PB_check_drawing ii ic gc ia jf gt) [drW n ar cs] = .ret (drW n ar cs) := by
  rw [d_run 4 1 _ _ rfl]
  have e1 : applyF fs jf [W.d (PyData.int n), W.d (PyData.int 1), W.d (PyData.int 10)] = _ := hf n 1 10
  have e2 : applyF fs ii [W.d (PyData.int n), W.d (PyData.tuple (ar.map prD)), W.d (PyData.int 1), W.fn ia] = _ := hi1
  have e3 : applyF fs ii [W.d (PyData.int n), W.d (PyData.tuple (cs.map csD)), W.d (PyData.int 2), W.fn ic] = _ := hi2
  have h4 : ¬ (20 : Int) < (cs.length : Int) := by omega
  simp [PB_check_drawing, v_v, v_non, v_bl, v_int, v_str, v_gl, v_fn, v_tup, v_lst, v_dnew, v_bin, v_neg, v_cmp, v_chain, v_isN, v_notN, v_bop, v_b1, v_b2, v_not, v_ite, v_ix, v_sl, v_call, v_callk, v_callv, v_bi, v_isi, v_comp, l_nil, l_cons, o_nil, o_cons, c_nil', c_cons', i_of', i_rng1', i_rng2', i_enum', i_zip', i_rev', s_nil', s_cons', t_asg, t_par, t_ret, t_retN, t_ite, t_for, t_ex, t_put, t_app, t_ext, t_brk, t_cnt, cmpK, iteK, notK, bopK, tupK, lstK, iteS, asgK, parK, escE, escL, escI, dem, dem1, getN, binW, addW, int2, b1W, lenW, tupleW, listW, intW, isiW, ixW, cmpW, wBool, wInt, isNone, asgE, asgT, asgTs, Tg.is, TgL.is, wipeE, fresh, isBox, datas, W.data?, opt_some, opt_none, M.bind_ret, M.bind_stuck, M.nox_ret, itOf, itEnum, itZip, itRev, ownAt, ownL, W.i, W.b, List.map_cons, List.map_nil, List.set, List.getElem?_cons_zero, List.getElem?_cons_succ, List.length_cons, List.length_nil, List.replicate, List.append_nil, List.nil_append, List.cons_append, ite_true, ite_false, Bool.false_eq_true, reduceCtorEq, if_true, if_false, seqK_nx, seqK_rt, seqK_bk, seqK_ct, finK_rt, finK_nx, drW, hgt, hgc, e1, h0, h1, e2, e3, intB, h4]
theorem check_lot_ok {is_ : Nat} {n : Int} {ar : List (Int × Int)} {cs : List (List Int)} {xs : List Int} (h : applyF fs is_ [tI xs, .i (n - 1)] = .ret (.b true)) : evD fs gs fu 2 2 (PB_check_lot is_) [drW n ar cs, tI xs] = .ret (tI xs) := by
  rw [d_run 2 2 _ _ rfl]
  have a0 : atI [PyData.int n, PyData.tuple (ar.map prD), PyData.tuple (cs.map csD)] 0 = some (.int n) := rfl
  have e1 : applyF fs is_ [W.d (PyData.tuple (xs.map PyData.int)), W.d (PyData.int (n - 1))] = _ := h
  simp [PB_check_lot, v_v, v_non, v_bl, v_int, v_str, v_gl, v_fn, v_tup, v_lst, v_dnew, v_bin, v_neg, v_cmp, v_chain, v_isN, v_notN, v_bop, v_b1, v_b2, v_not, v_ite, v_ix, v_sl, v_call, v_callk, v_callv, v_bi, v_isi, v_comp, l_nil, l_cons, o_nil, o_cons, c_nil', c_cons', i_of', i_rng1', i_rng2', i_enum', i_zip', i_rev', s_nil', s_cons', t_asg, t_par, t_ret, t_retN, t_ite, t_for, t_ex, t_put, t_app, t_ext, t_brk, t_cnt, cmpK, iteK, notK, bopK, tupK, lstK, iteS, asgK, parK, escE, escL, escI, dem, dem1, getN, binW, addW, int2, b1W, lenW, tupleW, listW, intW, isiW, ixW, cmpW, wBool, wInt, isNone, asgE, asgT, asgTs, Tg.is, TgL.is, wipeE, fresh, isBox, datas, W.data?, opt_some, opt_none, M.bind_ret, M.bind_stuck, M.nox_ret, itOf, itEnum, itZip, itRev, ownAt, ownL, W.i, W.b, List.map_cons, List.map_nil, List.set, List.getElem?_cons_zero, List.getElem?_cons_succ, List.length_cons, List.length_nil, List.replicate, List.append_nil, List.nil_append, List.cons_append, ite_true, ite_false, Bool.false_eq_true, reduceCtorEq, if_true, if_false, seqK_nx, seqK_rt, seqK_bk, seqK_ct, finK_rt, finK_nx, drW, tI, a0, e1]
theorem check_within_ok {iw il : Nat} {d : W} {lot xs : List Int} (h1 : applyF fs il [d, tI xs] = .ret (tI xs)) (h2 : applyF fs iw [tI lot, tI xs] = .ret (.b true)) : evD fs gs fu 3 3 (PB_check_within iw il) [d, tI lot, tI xs] = .ret (tI xs) := by
  rw [d_run 3 3 _ _ rfl]
  have e1 : applyF fs il [d, W.d (PyData.tuple (xs.map PyData.int))] = _ := h1
  have e2 : applyF fs iw [W.d (PyData.tuple (lot.map PyData.int)), W.d (PyData.tuple (xs.map PyData.int))] = _ := h2
  simp [PB_check_within, v_v, v_non, v_bl, v_int, v_str, v_gl, v_fn, v_tup, v_lst, v_dnew, v_bin, v_neg, v_cmp, v_chain, v_isN, v_notN, v_bop, v_b1, v_b2, v_not, v_ite, v_ix, v_sl, v_call, v_callk, v_callv, v_bi, v_isi, v_comp, l_nil, l_cons, o_nil, o_cons, c_nil', c_cons', i_of', i_rng1', i_rng2', i_enum', i_zip', i_rev', s_nil', s_cons', t_asg, t_par, t_ret, t_retN, t_ite, t_for, t_ex, t_put, t_app, t_ext, t_brk, t_cnt, cmpK, iteK, notK, bopK, tupK, lstK, iteS, asgK, parK, escE, escL, escI, dem, dem1, getN, binW, addW, int2, b1W, lenW, tupleW, listW, intW, isiW, ixW, cmpW, wBool, wInt, isNone, asgE, asgT, asgTs, Tg.is, TgL.is, wipeE, fresh, isBox, datas, W.data?, opt_some, opt_none, M.bind_ret, M.bind_stuck, M.nox_ret, itOf, itEnum, itZip, itRev, ownAt, ownL, W.i, W.b, List.map_cons, List.map_nil, List.set, List.getElem?_cons_zero, List.getElem?_cons_succ, List.length_cons, List.length_nil, List.replicate, List.append_nil, List.nil_append, List.cons_append, ite_true, ite_false, Bool.false_eq_true, reduceCtorEq, if_true, if_false, seqK_nx, seqK_rt, seqK_bk, seqK_ct, finK_rt, finK_nx, tI, e1, e2]
/-! ### what leads where -/
/-- turn by turn, from the back -/
def leadF (ar : List (Int × Int)) (lot goal : List Int) : List Int → List Int → List Int
  | [], found => found
  | x :: rest, found => leadF ar lot goal rest (if x ∈ goal ∨ ∃ y ∈ outs ar lot x, y ∈ found then found ++ [x] else found)
def foundD (found : List Int) : List (Key × W) := found.map fun x => (Sum.inl x, W.b true)
theorem foundD_keys (found : List Int) : keysI (foundD found) = some found := by
  induction found with
  | nil => rfl
  | cons x xs ih => unfold foundD at ih ⊢; rw [List.map_cons, keysI, ih]
theorem foundD_find (found : List Int) (x : Int) : (findV (foundD found) (Sum.inl x)).isSome = decide (x ∈ found) := by
  unfold findV foundD
  induction found with
  | nil => rfl
  | cons y ys ih =>
    rw [List.map_cons, List.find?_cons]
    by_cases h : y = x
    · subst h; simp
    · have : ¬ (Sum.inl y : Key) = Sum.inl x := fun z => h (Sum.inl.inj z)
      rw [decide_eq_false this]
      dsimp only
      rw [ih]
      have : x ≠ y := fun z => h z.symm
      simp [this]
theorem foundD_put (found : List Int) (x : Int) (h : x ∉ found) : putV (Sum.inl x) (W.b true) (foundD found) = foundD (found ++ [x]) := by
  unfold putV
  rw [if_neg]
  · unfold foundD; rw [List.map_append]; rfl
  · unfold foundD
    intro z
    rw [List.any_map, List.any_eq_true] at z
    obtain ⟨y, hy, e⟩ := z
    have : (Sum.inl y : Key) = Sum.inl x := of_decide_eq_true e
    exact h (Sum.inl.inj this ▸ hy)

theorem foundD_len (found : List Int) : (foundD found).length = found.length := by unfold foundD; rw [List.length_map]
theorem inW_found (x : Int) (found : List Int) : inW (W.d (.int x)) (.dK (foundD found)) = some (decide (x ∈ found)) := by
  show some (findV (foundD found) (Sum.inl x)).isSome = _
  rw [foundD_find]
theorem leadF_len (ar : List (Int × Int)) (lot goal : List Int) : ∀ (rest found : List Int), (leadF ar lot goal rest found).length ≤ found.length + rest.length
  | [], found => by simp [leadF]
  | x :: rest, found => by
    unfold leadF
    refine Nat.le_trans (leadF_len ar lot goal rest _) ?_
    split
    · rw [List.length_append]; simp; omega
    · simp
theorem outs_len (ar : List (Int × Int)) (lot : List Int) (x : Int) : (outs ar lot x).length ≤ ar.length := List.length_filterMap_le _ _
theorem leadF_cons (ar : List (Int × Int)) (lot goal : List Int) (x : Int) (rest found : List Int) : leadF ar lot goal (x :: rest) found = leadF ar lot goal rest (if x ∈ goal ∨ ∃ y ∈ outs ar lot x, y ∈ found then found ++ [x] else found) := rfl
theorem nodup_rev {l : List Int} (h : l.Nodup) : l.reverse.Nodup := by
  unfold List.Nodup at h ⊢
  rw [List.pairwise_reverse]
  exact h.imp fun z y => z y.symm
theorem not_take {l : List Int} {x : Int} : ∀ {k : Nat}, l.Nodup → l[k]? = some x → x ∉ l.take k := by
  induction l with
  | nil => intro k _ h; simp at h
  | cons y l ih =>
    intro k hn h
    cases k with
    | zero => simp
    | succ k =>
      obtain ⟨h1, h2⟩ := List.nodup_cons.mp hn
      have h : l[k]? = some x := by simpa using h
      rw [List.take_succ_cons]
      intro z
      rcases List.mem_cons.mp z with z | z
      · subst z; exact h1 (List.mem_of_getElem? h)
      · exact ih h2 h z
theorem leading_so_ok {ic : Nat} {n : Int} {ar : List (Int × Int)} {cs : List (List Int)} {lot goal : List Int} (hnd : lot.Nodup) (hl : lot.length < 64) (ha : ar.length ≤ cap)
    (hch : ∀ x, applyF fs ic [drW n ar cs, tI lot, .i x] = .ret (tI (outs ar lot x))) : evD fs gs fu 6 3 (PB_leading_so ic) [drW n ar cs, tI lot, tI goal] = .ret (tI (sortI (leadF ar lot goal lot.reverse []))) := by
  rw [d_run 6 3 _ _ rfl]
  have hcap : cap = 100000 := rfl
  obtain ⟨r', h1, c4, found, hr, hf, _⟩ := forR_inv (fs := fs) (gs := gs) (fu := fu) (tg := .n 4) (ws := (lot.map PyData.int).reverse.map .d)
    (body := (.cons (.ite (.bop false (.cons (.cmp .isin (.v 4) (.v 2)) (.cons (.cmp .gt (.b1 .len (.comp (.n 5) (.of (.call ic (.cons (.v 0) (.cons (.v 1) (.cons (.v 4) .nil))))) (.cons (.cmp .isin (.v 5) (.v 3)) .nil) (.int 1))) (.int 0)) .nil))) (.cons (.put 3 (.v 4) (.bl true)) .nil) .nil) .nil))
    (fun k r => ∃ c4 found, r = [.sh (drW n ar cs), .sh (tI lot), .sh (tI goal), .ow (.dK (foundD found)), c4, .no] ∧ leadF ar lot goal (lot.reverse.drop k) found = leadF ar lot goal lot.reverse [] ∧ (∀ y ∈ found, y ∈ lot.reverse.take k) ∧ found.length ≤ k)
    (r := [.sh (drW n ar cs), .sh (tI lot), .sh (tI goal), .ow (.dK (foundD [])), .no, .no]) ⟨_, [], rfl, by rw [List.drop_zero], fun _ h => by simp at h, Nat.le_refl _⟩ (fun k w r hw ⟨c4, found, hr, hfd, hsub, hlen⟩ => by
      subst hr
      rw [← List.map_reverse, List.map_map, List.getElem?_map] at hw
      cases hx : lot.reverse[k]? with
      | none => rw [hx] at hw; cases hw
      | some x =>
        rw [hx] at hw
        cases hw
        have hk := get_lt' hx
        rw [List.length_reverse] at hk
        have hdrop : lot.reverse.drop k = x :: lot.reverse.drop (k + 1) := by
          rw [List.drop_eq_getElem_cons (get_lt' hx)]
          congr 1
          exact Option.some.inj ((List.getElem?_eq_getElem (get_lt' hx)).symm.trans hx)
        have hnew : x ∉ found := fun z => not_take (nodup_rev hnd) hx (hsub x z)
        have htake : lot.reverse.take (k + 1) = lot.reverse.take k ++ [x] := by rw [List.take_add_one, hx]; rfl
        have hset : asgT (.n 4) ((W.d ∘ PyData.int) x) [.sh (drW n ar cs), .sh (tI lot), .sh (tI goal), .ow (.dK (foundD found)), c4, .no] = some [.sh (drW n ar cs), .sh (tI lot), .sh (tI goal), .ow (.dK (foundD found)), .sh (.i x), .no] := rfl
        have e1 : applyF fs ic [W.d (.tuple [.int n, .tuple (ar.map prD), .tuple (cs.map csD)]), W.d (.tuple (lot.map PyData.int)), W.d (.int x)] = _ := hch x
        have hcomp : compR fs gs [.sh (drW n ar cs), .sh (tI lot), .sh (tI goal), .ow (.dK (foundD found)), .sh (.i x), .no] (.n 5) (.cons (.cmp .isin (.v 5) (.v 3)) .nil) (.int 1) ((outs ar lot x).map (W.d ∘ PyData.int)) = .ret (.d (.list ((outs ar lot x).filterMap fun y => if y ∈ found then some (.int 1) else none))) :=
          compR_of (W.d ∘ PyData.int) _ (Nat.le_trans (outs_len ar lot x) ha) fun y hy => by
            by_cases h : y ∈ found <;> simp [stepC, v_v, v_non, v_bl, v_int, v_str, v_gl, v_fn, v_tup, v_lst, v_dnew, v_bin, v_neg, v_cmp, v_chain, v_isN, v_notN, v_bop, v_b1, v_b2, v_not, v_ite, v_ix, v_sl, v_call, v_callk, v_callv, v_bi, v_isi, v_comp, l_nil, l_cons, o_nil, o_cons, c_nil', c_cons', i_of', i_rng1', i_rng2', i_enum', i_zip', i_rev', s_nil', s_cons', t_asg, t_par, t_ret, t_retN, t_ite, t_for, t_ex, t_put, t_app, t_ext, t_brk, t_cnt, cmpK, iteK, notK, bopK, tupK, lstK, iteS, asgK, parK, escE, escL, escI, dem, dem1, getN, binW, addW, int2, b1W, lenW, tupleW, listW, intW, isiW, ixW, cmpW, wBool, wInt, isNone, asgE, asgT, asgTs, Tg.is, TgL.is, wipeE, fresh, isBox, datas, W.data?, opt_some, opt_none, M.bind_ret, M.bind_stuck, M.nox_ret, itOf, itEnum, itZip, itRev, ownAt, ownL, W.i, W.b, List.map_cons, List.map_nil, List.set, List.getElem?_cons_zero, List.getElem?_cons_succ, List.length_cons, List.length_nil, List.replicate, List.append_nil, List.nil_append, List.cons_append, ite_true, ite_false, Bool.false_eq_true, reduceCtorEq, if_true, if_false, seqK_nx, seqK_rt, seqK_bk, seqK_ct, finK_rt, finK_nx, inW_found, h]
        rw [hdrop, leadF_cons] at hfd
        have hlong : ((outs ar lot x).filterMap fun y => if y ∈ found then some (PyData.int 1) else none).length ≠ 0 ↔ ∃ y ∈ outs ar lot x, y ∈ found := by
          generalize outs ar lot x = os
          induction os with
          | nil => simp
          | cons o os ih =>
            by_cases h : o ∈ found
            · simp [List.filterMap_cons, h]
            · simp only [List.filterMap_cons, h, if_false]
              rw [ih]
              simp [h]
        by_cases hc : x ∈ goal ∨ ∃ y ∈ outs ar lot x, y ∈ found
        · rw [if_pos hc] at hfd
          refine ⟨_, [.sh (drW n ar cs), .sh (tI lot), .sh (tI goal), .ow (.dK (foundD (found ++ [x]))), .sh (.i x), .no], hset, ?_, _, found ++ [x], rfl, hfd, fun y hy => ?_, by rw [List.length_append]; simp; omega⟩
          · have hput : putW (.dK (foundD found)) (W.d (.int x)) (W.d (.bool true)) = some (.dK (foundD (found ++ [x]))) := by
              show (if (foundD found).length < cap then some (W.dK (putV (Sum.inl x) (W.b true) (foundD found))) else none) = _
              rw [if_pos (by rw [foundD_len]; omega), foundD_put found x hnew]
            by_cases hg : x ∈ goal
            · simp [v_v, v_non, v_bl, v_int, v_str, v_gl, v_fn, v_tup, v_lst, v_dnew, v_bin, v_neg, v_cmp, v_chain, v_isN, v_notN, v_bop, v_b1, v_b2, v_not, v_ite, v_ix, v_sl, v_call, v_callk, v_callv, v_bi, v_isi, v_comp, l_nil, l_cons, o_nil, o_cons, c_nil', c_cons', i_of', i_rng1', i_rng2', i_enum', i_zip', i_rev', s_nil', s_cons', t_asg, t_par, t_ret, t_retN, t_ite, t_for, t_ex, t_put, t_app, t_ext, t_brk, t_cnt, cmpK, iteK, notK, bopK, tupK, lstK, iteS, asgK, parK, escE, escL, escI, dem, dem1, getN, binW, addW, int2, b1W, lenW, tupleW, listW, intW, isiW, ixW, cmpW, wBool, wInt, isNone, asgE, asgT, asgTs, Tg.is, TgL.is, wipeE, fresh, isBox, datas, W.data?, opt_some, opt_none, M.bind_ret, M.bind_stuck, M.nox_ret, itOf, itEnum, itZip, itRev, ownAt, ownL, W.i, W.b, List.map_cons, List.map_nil, List.set, List.getElem?_cons_zero, List.getElem?_cons_succ, List.length_cons, List.length_nil, List.replicate, List.append_nil, List.nil_append, List.cons_append, ite_true, ite_false, Bool.false_eq_true, reduceCtorEq, if_true, if_false, seqK_nx, seqK_rt, seqK_bk, seqK_ct, finK_rt, finK_nx, hg, hput]
            · have hne := hlong.mpr (hc.resolve_left hg)
              simp [v_v, v_non, v_bl, v_int, v_str, v_gl, v_fn, v_tup, v_lst, v_dnew, v_bin, v_neg, v_cmp, v_chain, v_isN, v_notN, v_bop, v_b1, v_b2, v_not, v_ite, v_ix, v_sl, v_call, v_callk, v_callv, v_bi, v_isi, v_comp, l_nil, l_cons, o_nil, o_cons, c_nil', c_cons', i_of', i_rng1', i_rng2', i_enum', i_zip', i_rev', s_nil', s_cons', t_asg, t_par, t_ret, t_retN, t_ite, t_for, t_ex, t_put, t_app, t_ext, t_brk, t_cnt, cmpK, iteK, notK, bopK, tupK, lstK, iteS, asgK, parK, escE, escL, escI, dem, dem1, getN, binW, addW, int2, b1W, lenW, tupleW, listW, intW, isiW, ixW, cmpW, wBool, wInt, isNone, asgE, asgT, asgTs, Tg.is, TgL.is, wipeE, fresh, isBox, datas, W.data?, opt_some, opt_none, M.bind_ret, M.bind_stuck, M.nox_ret, itOf, itEnum, itZip, itRev, ownAt, ownL, W.i, W.b, List.map_cons, List.map_nil, List.set, List.getElem?_cons_zero, List.getElem?_cons_succ, List.length_cons, List.length_nil, List.replicate, List.append_nil, List.nil_append, List.cons_append, ite_true, ite_false, Bool.false_eq_true, reduceCtorEq, if_true, if_false, seqK_nx, seqK_rt, seqK_bk, seqK_ct, finK_rt, finK_nx, hg, e1, tI]
              simp [drW, tI] at hcomp
              rw [hcomp]
              have : (0 : Int) < ((((outs ar lot x).filterMap fun y => if y ∈ found then some (PyData.int 1) else none).length : Nat) : Int) := by omega
              simp [v_v, v_non, v_bl, v_int, v_str, v_gl, v_fn, v_tup, v_lst, v_dnew, v_bin, v_neg, v_cmp, v_chain, v_isN, v_notN, v_bop, v_b1, v_b2, v_not, v_ite, v_ix, v_sl, v_call, v_callk, v_callv, v_bi, v_isi, v_comp, l_nil, l_cons, o_nil, o_cons, c_nil', c_cons', i_of', i_rng1', i_rng2', i_enum', i_zip', i_rev', s_nil', s_cons', t_asg, t_par, t_ret, t_retN, t_ite, t_for, t_ex, t_put, t_app, t_ext, t_brk, t_cnt, cmpK, iteK, notK, bopK, tupK, lstK, iteS, asgK, parK, escE, escL, escI, dem, dem1, getN, binW, addW, int2, b1W, lenW, tupleW, listW, intW, isiW, ixW, cmpW, wBool, wInt, isNone, asgE, asgT, asgTs, Tg.is, TgL.is, wipeE, fresh, isBox, datas, W.data?, opt_some, opt_none, M.bind_ret, M.bind_stuck, M.nox_ret, itOf, itEnum, itZip, itRev, ownAt, ownL, W.i, W.b, List.map_cons, List.map_nil, List.set, List.getElem?_cons_zero, List.getElem?_cons_succ, List.length_cons, List.length_nil, List.replicate, List.append_nil, List.nil_append, List.cons_append, ite_true, ite_false, Bool.false_eq_true, reduceCtorEq, if_true, if_false, seqK_nx, seqK_rt, seqK_bk, seqK_ct, finK_rt, finK_nx, intB, this, hput, hc.resolve_left hg]
          · rw [htake]
            rcases List.mem_append.mp hy with h | h
            · exact List.mem_append_left _ (hsub y h)
            · exact List.mem_append_right _ h
        · rw [if_neg hc] at hfd
          refine ⟨_, [.sh (drW n ar cs), .sh (tI lot), .sh (tI goal), .ow (.dK (foundD found)), .sh (.i x), .no], hset, ?_, _, found, rfl, hfd, fun y hy => ?_, by omega⟩
          · have hg : x ∉ goal := fun z => hc (.inl z)
            have hz : ((outs ar lot x).filterMap fun y => if y ∈ found then some (PyData.int 1) else none).length = 0 := by
              by_cases z : ((outs ar lot x).filterMap fun y => if y ∈ found then some (PyData.int 1) else none).length = 0
              · exact z
              · exact absurd (.inr (hlong.mp z)) hc
            simp [v_v, v_non, v_bl, v_int, v_str, v_gl, v_fn, v_tup, v_lst, v_dnew, v_bin, v_neg, v_cmp, v_chain, v_isN, v_notN, v_bop, v_b1, v_b2, v_not, v_ite, v_ix, v_sl, v_call, v_callk, v_callv, v_bi, v_isi, v_comp, l_nil, l_cons, o_nil, o_cons, c_nil', c_cons', i_of', i_rng1', i_rng2', i_enum', i_zip', i_rev', s_nil', s_cons', t_asg, t_par, t_ret, t_retN, t_ite, t_for, t_ex, t_put, t_app, t_ext, t_brk, t_cnt, cmpK, iteK, notK, bopK, tupK, lstK, iteS, asgK, parK, escE, escL, escI, dem, dem1, getN, binW, addW, int2, b1W, lenW, tupleW, listW, intW, isiW, ixW, cmpW, wBool, wInt, isNone, asgE, asgT, asgTs, Tg.is, TgL.is, wipeE, fresh, isBox, datas, W.data?, opt_some, opt_none, M.bind_ret, M.bind_stuck, M.nox_ret, itOf, itEnum, itZip, itRev, ownAt, ownL, W.i, W.b, List.map_cons, List.map_nil, List.set, List.getElem?_cons_zero, List.getElem?_cons_succ, List.length_cons, List.length_nil, List.replicate, List.append_nil, List.nil_append, List.cons_append, ite_true, ite_false, Bool.false_eq_true, reduceCtorEq, if_true, if_false, seqK_nx, seqK_rt, seqK_bk, seqK_ct, finK_rt, finK_nx, hg, e1, tI]
            simp [drW, tI] at hcomp
            rw [hcomp]
            simp [v_v, v_non, v_bl, v_int, v_str, v_gl, v_fn, v_tup, v_lst, v_dnew, v_bin, v_neg, v_cmp, v_chain, v_isN, v_notN, v_bop, v_b1, v_b2, v_not, v_ite, v_ix, v_sl, v_call, v_callk, v_callv, v_bi, v_isi, v_comp, l_nil, l_cons, o_nil, o_cons, c_nil', c_cons', i_of', i_rng1', i_rng2', i_enum', i_zip', i_rev', s_nil', s_cons', t_asg, t_par, t_ret, t_retN, t_ite, t_for, t_ex, t_put, t_app, t_ext, t_brk, t_cnt, cmpK, iteK, notK, bopK, tupK, lstK, iteS, asgK, parK, escE, escL, escI, dem, dem1, getN, binW, addW, int2, b1W, lenW, tupleW, listW, intW, isiW, ixW, cmpW, wBool, wInt, isNone, asgE, asgT, asgTs, Tg.is, TgL.is, wipeE, fresh, isBox, datas, W.data?, opt_some, opt_none, M.bind_ret, M.bind_stuck, M.nox_ret, itOf, itEnum, itZip, itRev, ownAt, ownL, W.i, W.b, List.map_cons, List.map_nil, List.set, List.getElem?_cons_zero, List.getElem?_cons_succ, List.length_cons, List.length_nil, List.replicate, List.append_nil, List.nil_append, List.cons_append, ite_true, ite_false, Bool.false_eq_true, reduceCtorEq, if_true, if_false, seqK_nx, seqK_rt, seqK_bk, seqK_ct, finK_rt, finK_nx, intB, hz]
          · rw [htake]; exact List.mem_append_left _ (hsub y hy))
  subst hr
  have hlenw : ((lot.map PyData.int).reverse.map W.d).length = lot.length := by simp
  rw [hlenw] at hf
  rw [show lot.reverse.drop lot.length = [] by rw [← List.length_reverse, List.drop_length], show leadF ar lot goal [] found = found from rfl] at hf
  have hfl : found.length < 64 := by
    rw [hf]
    have := leadF_len ar lot goal lot.reverse []
    rw [List.length_reverse] at this
    simp at this
    omega
  have hs : sortedW (.dK (foundD found)) = some (.d (.list ((sortI found).map .int))) := by
    unfold sortedW
    dsimp only
    rw [foundD_keys]
    dsimp only
    rw [if_pos hfl]
  simp [PB_leading_so, v_v, v_non, v_bl, v_int, v_str, v_gl, v_fn, v_tup, v_lst, v_dnew, v_bin, v_neg, v_cmp, v_chain, v_isN, v_notN, v_bop, v_b1, v_b2, v_not, v_ite, v_ix, v_sl, v_call, v_callk, v_callv, v_bi, v_isi, v_comp, l_nil, l_cons, o_nil, o_cons, c_nil', c_cons', i_of', i_rng1', i_rng2', i_enum', i_zip', i_rev', s_nil', s_cons', t_asg, t_par, t_ret, t_retN, t_ite, t_for, t_ex, t_put, t_app, t_ext, t_brk, t_cnt, cmpK, iteK, notK, bopK, tupK, lstK, iteS, asgK, parK, escE, escL, escI, dem, dem1, getN, binW, addW, int2, b1W, lenW, tupleW, listW, intW, isiW, ixW, cmpW, wBool, wInt, isNone, asgE, asgT, asgTs, Tg.is, TgL.is, wipeE, fresh, isBox, datas, W.data?, opt_some, opt_none, M.bind_ret, M.bind_stuck, M.nox_ret, itOf, itEnum, itZip, itRev, ownAt, ownL, W.i, W.b, List.map_cons, List.map_nil, List.set, List.getElem?_cons_zero, List.getElem?_cons_succ, List.length_cons, List.length_nil, List.replicate, List.append_nil, List.nil_append, List.cons_append, ite_true, ite_false, Bool.false_eq_true, reduceCtorEq, if_true, if_false, seqK_nx, seqK_rt, seqK_bk, seqK_ct, finK_rt, finK_nx]
  simp [foundD] at h1
  rw [h1]
  rw [hf] at hs
  simp only [foundD, W.b] at hs
  simp [v_v, v_non, v_bl, v_int, v_str, v_gl, v_fn, v_tup, v_lst, v_dnew, v_bin, v_neg, v_cmp, v_chain, v_isN, v_notN, v_bop, v_b1, v_b2, v_not, v_ite, v_ix, v_sl, v_call, v_callk, v_callv, v_bi, v_isi, v_comp, l_nil, l_cons, o_nil, o_cons, c_nil', c_cons', i_of', i_rng1', i_rng2', i_enum', i_zip', i_rev', s_nil', s_cons', t_asg, t_par, t_ret, t_retN, t_ite, t_for, t_ex, t_put, t_app, t_ext, t_brk, t_cnt, cmpK, iteK, notK, bopK, tupK, lstK, iteS, asgK, parK, escE, escL, escI, dem, dem1, getN, binW, addW, int2, b1W, lenW, tupleW, listW, intW, isiW, ixW, cmpW, wBool, wInt, isNone, asgE, asgT, asgTs, Tg.is, TgL.is, wipeE, fresh, isBox, datas, W.data?, opt_some, opt_none, M.bind_ret, M.bind_stuck, M.nox_ret, itOf, itEnum, itZip, itRev, ownAt, ownL, W.i, W.b, List.map_cons, List.map_nil, List.set, List.getElem?_cons_zero, List.getElem?_cons_succ, List.length_cons, List.length_nil, List.replicate, List.append_nil, List.nil_append, List.cons_append, ite_true, ite_false, Bool.false_eq_true, reduceCtorEq, if_true, if_false, seqK_nx, seqK_rt, seqK_bk, seqK_ct, finK_rt, finK_nx, foundD, hf, hs]

def leadL (ar : List (Int × Int)) (lot goal : List Int) : List Int := sortI (leadF ar lot goal lot.reverse [])
theorem leading_ok {il iw io id : Nat} {d : W} {lot goal : List Int} {res : W} (h1 : applyF fs id [d] = .ret d) (h2 : applyF fs io [d, tI lot] = .ret (tI lot)) (h3 : applyF fs iw [d, tI lot, tI goal] = .ret (tI goal)) (h4 : applyF fs il [d, tI lot, tI goal] = .ret res) :
    evD fs gs fu 3 3 (PB_leading il iw io id) [d, tI lot, tI goal] = .ret res := by
  rw [d_run 3 3 _ _ rfl]
  have e2 : applyF fs io [d, W.d (PyData.tuple (lot.map PyData.int))] = _ := h2
  have e3 : applyF fs iw [d, W.d (PyData.tuple (lot.map PyData.int)), W.d (PyData.tuple (goal.map PyData.int))] = _ := h3
  have e4 : applyF fs il [d, W.d (PyData.tuple (lot.map PyData.int)), W.d (PyData.tuple (goal.map PyData.int))] = _ := h4
  simp [PB_leading, v_v, v_non, v_bl, v_int, v_str, v_gl, v_fn, v_tup, v_lst, v_dnew, v_bin, v_neg, v_cmp, v_chain, v_isN, v_notN, v_bop, v_b1, v_b2, v_not, v_ite, v_ix, v_sl, v_call, v_callk, v_callv, v_bi, v_isi, v_comp, l_nil, l_cons, o_nil, o_cons, c_nil', c_cons', i_of', i_rng1', i_rng2', i_enum', i_zip', i_rev', s_nil', s_cons', t_asg, t_par, t_ret, t_retN, t_ite, t_for, t_ex, t_put, t_app, t_ext, t_brk, t_cnt, cmpK, iteK, notK, bopK, tupK, lstK, iteS, asgK, parK, escE, escL, escI, dem, dem1, getN, binW, addW, int2, b1W, lenW, tupleW, listW, intW, isiW, ixW, cmpW, wBool, wInt, isNone, asgE, asgT, asgTs, Tg.is, TgL.is, wipeE, fresh, isBox, datas, W.data?, opt_some, opt_none, M.bind_ret, M.bind_stuck, M.nox_ret, itOf, itEnum, itZip, itRev, ownAt, ownL, W.i, W.b, List.map_cons, List.map_nil, List.set, List.getElem?_cons_zero, List.getElem?_cons_succ, List.length_cons, List.length_nil, List.replicate, List.append_nil, List.nil_append, List.cons_append, ite_true, ite_false, Bool.false_eq_true, reduceCtorEq, if_true, if_false, seqK_nx, seqK_rt, seqK_bk, seqK_ct, finK_rt, finK_nx, tI, h1, e2, e3, e4]
theorem goal_of_ok {il iw ie iv io id : Nat} {d : W} {shut every free goal : List Int} {res : W} (h1 : applyF fs id [d] = .ret d) (h2 : applyF fs io [d, tI shut] = .ret (tI shut)) (he : applyF fs iv [d] = .ret (tI every)) (hf : applyF fs ie [tI every, tI shut] = .ret (tI free))
    (h3 : applyF fs iw [d, tI free, tI goal] = .ret (tI goal)) (h4 : applyF fs il [d, tI free, tI goal] = .ret res) : evD fs gs fu 4 3 (PB_goal_of il iw ie iv io id) [d, tI shut, tI goal] = .ret res := by
  rw [d_run 4 3 _ _ rfl]
  have e2 : applyF fs io [d, W.d (PyData.tuple (shut.map PyData.int))] = _ := h2
  have e5 : applyF fs ie [W.d (PyData.tuple (every.map PyData.int)), W.d (PyData.tuple (shut.map PyData.int))] = _ := hf
  have e3 : applyF fs iw [d, W.d (PyData.tuple (free.map PyData.int)), W.d (PyData.tuple (goal.map PyData.int))] = _ := h3
  have e4 : applyF fs il [d, W.d (PyData.tuple (free.map PyData.int)), W.d (PyData.tuple (goal.map PyData.int))] = _ := h4
  simp [PB_goal_of, v_v, v_non, v_bl, v_int, v_str, v_gl, v_fn, v_tup, v_lst, v_dnew, v_bin, v_neg, v_cmp, v_chain, v_isN, v_notN, v_bop, v_b1, v_b2, v_not, v_ite, v_ix, v_sl, v_call, v_callk, v_callv, v_bi, v_isi, v_comp, l_nil, l_cons, o_nil, o_cons, c_nil', c_cons', i_of', i_rng1', i_rng2', i_enum', i_zip', i_rev', s_nil', s_cons', t_asg, t_par, t_ret, t_retN, t_ite, t_for, t_ex, t_put, t_app, t_ext, t_brk, t_cnt, cmpK, iteK, notK, bopK, tupK, lstK, iteS, asgK, parK, escE, escL, escI, dem, dem1, getN, binW, addW, int2, b1W, lenW, tupleW, listW, intW, isiW, ixW, cmpW, wBool, wInt, isNone, asgE, asgT, asgTs, Tg.is, TgL.is, wipeE, fresh, isBox, datas, W.data?, opt_some, opt_none, M.bind_ret, M.bind_stuck, M.nox_ret, itOf, itEnum, itZip, itRev, ownAt, ownL, W.i, W.b, List.map_cons, List.map_nil, List.set, List.getElem?_cons_zero, List.getElem?_cons_succ, List.length_cons, List.length_nil, List.replicate, List.append_nil, List.nil_append, List.cons_append, ite_true, ite_false, Bool.false_eq_true, reduceCtorEq, if_true, if_false, seqK_nx, seqK_rt, seqK_bk, seqK_ct, finK_rt, finK_nx, tI, h1, e2, he, e5, e3, e4]
end
end DS

set_option Elab.async false
set_option linter.all false
set_option autoImplicit false
set_option maxRecDepth 100000
set_option maxHeartbeats 4000000
/-! DP2: loops that return, draws; what comes to a goal. -/
namespace DS
open PySem PySem.Spec PySem.SeqAt PyProof.Rows L2
section
variable {fs : Fns} {gs : List W} {fu : Nat}
/-- a loop that returns v at the first item with f -/
theorem forR_find {α : Type} {tg : Tg} {body : SL} (g : α → W) (f : α → Bool) (v : W) (I : Env → Prop) : ∀ {xs : List α} {r : Env}, I r →
    (∀ x ∈ xs, ∀ r, I r → ∃ r2 r3, asgT tg (g x) r = some r2 ∧ evSL fs gs fu body r2 = .ret (if f x = true then (.rt v, r3) else (.nx, r3)) ∧ I r3) →
    ∃ r', forR fs gs fu tg body r (xs.map g) = .ret (if xs.any f = true then (.rt v, r') else (.nx, r')) ∧ I r'
  | [], r, h0, _ => ⟨r, rfl, h0⟩
  | x :: xs, r, h0, hs => by
    obtain ⟨r2, r3, h1, h2, h3⟩ := hs x List.mem_cons_self r h0
    unfold forR
    rw [List.map_cons, forM_cons]
    simp only [h1, opt_some, M.bind_ret, h2]
    cases hf : f x with
    | true => exact ⟨r3, by simp [List.any_cons, hf], h3⟩
    | false =>
      obtain ⟨r', g1, g2⟩ := forR_find g f v I h3 fun y hy => hs y (List.mem_cons_of_mem _ hy)
      refine ⟨r', ?_, g2⟩
      unfold forR at g1
      simp only [List.any_cons, hf, Bool.false_or, Bool.false_eq_true, if_false]
      exact g1
/-! ### draws -/
theorem M.nox_wp {α : Type} {m : M α} {Q : α → Nat → Prop} {E : Exc → Nat → Prop} : ∀ {N : Nat}, m.wp N Q (fun _ _ => False) → m.nox.wp N Q E := by
  induction m with
  | ret a => exact fun h => h
  | exc x => exact fun h => h.elim
  | stuck => exact fun h => h.elim
  | draw n k ih => exact fun h => ⟨h.1, h.2.1, fun i a b => ih i (h.2.2 i a b)⟩
abbrev NoX : Exc → Nat → Prop := fun _ _ => False
/-- at most b draws, and P of the answer -/
def Ok {α : Type} (b : Nat) (m : M α) (P : α → Prop) : Prop := ∀ N, N + b ≤ 2 ^ 39 → m.wp N (fun a n => n ≤ N + b ∧ P a) NoX
theorem Ok.ret {α : Type} {b : Nat} {a : α} {P : α → Prop} (h : P a) : Ok b (.ret a) P := fun N _ => ⟨Nat.le_add_right _ _, h⟩
theorem Ok.of {α : Type} {b : Nat} {m : M α} {a : α} {P : α → Prop} (e : m = .ret a) (h : P a) : Ok b m P := e ▸ Ok.ret h
theorem Ok.bind {α β : Type} {b1 b2 : Nat} {m : M α} {f : α → M β} {P : α → Prop} {Q : β → Prop} (h : Ok b1 m P) (k : ∀ a, P a → Ok b2 (f a) Q) : Ok (b1 + b2) (m.bind f) Q := fun N hN => by
  refine M.wp_bind.mpr (M.wp_mono (fun a n ⟨hn, hp⟩ => ?_) (fun _ _ x => x) (h N (by omega)))
  exact M.wp_mono (fun c n2 ⟨h2, hq⟩ => ⟨by omega, hq⟩) (fun _ _ x => x) (k a hp n (by omega))
theorem Ok.imp {α : Type} {b b' : Nat} {m : M α} {P Q : α → Prop} (h : Ok b m P) (hb : b ≤ b') (k : ∀ a, P a → Q a) : Ok b' m Q := fun N hN =>
  M.wp_mono (fun a n ⟨hn, hp⟩ => ⟨by omega, k a hp⟩) (fun _ _ x => x) (h N (by omega))
theorem Ok.nox {α : Type} {b : Nat} {m : M α} {P : α → Prop} (h : Ok b m P) : Ok b m.nox P := fun N hN => M.nox_wp (h N hN)
theorem Ok.draw {l : Int} (h : 0 < l) (h2 : l < 2 ^ 60) : Ok 1 (drawF [.tok, .i l]) (fun w => ∃ k : Int, w = .i k ∧ 0 ≤ k ∧ k < l) := fun N hN => by
  show (if l.natAbs.log2 < 9000 then M.draw l fun i => M.ret (W.i i) else .stuck).wp _ _ _
  rw [if_pos (by have := log_lt (m := 60) (by omega : 0 ≤ l) h2 (by omega); omega)]
  exact ⟨h, by omega, fun i a b => ⟨Nat.le_refl _, i, rfl, a, b⟩⟩
/-- a comprehension that draws -/
inductive All2 {α β : Type} (R : α → β → Prop) : List α → List β → Prop
  | nil : All2 R [] []
  | cons {a : α} {b : β} {as : List α} {bs : List β} : R a b → All2 R as bs → All2 R (a :: as) (b :: bs)
theorem compM_ok {α : Type} {step : W → M (Option PyData)} (g : α → W) (R : α → Option PyData → Prop) (b : Nat) : ∀ {xs : List α} {acc : List PyData}, (∀ x ∈ xs, Ok b (step (g x)) (R x)) → Ok (b * xs.length) (compM step (xs.map g) acc) (fun ds => ∃ os, All2 R xs os ∧ ds = acc ++ os.filterMap id)
  | [], acc, _ => Ok.ret ⟨[], .nil, by simp⟩
  | x :: xs, acc, h => by
    rw [List.map_cons, compM_cons]
    refine (Ok.bind (b1 := b) (b2 := b * xs.length) (h x List.mem_cons_self) (fun o ho => ?_)).imp (by rw [List.length_cons, Nat.mul_succ]; omega) (fun _ z => z)
    have ih := fun acc => compM_ok g R b (xs := xs) (acc := acc) fun y hy => h y (List.mem_cons_of_mem _ hy)
    cases o with
    | none => exact (ih acc).imp (Nat.le_refl _) fun ds ⟨os, h1, h2⟩ => ⟨none :: os, .cons ho h1, h2⟩
    | some y => exact (ih (acc ++ [y])).imp (Nat.le_refl _) fun ds ⟨os, h1, h2⟩ => ⟨some y :: os, .cons ho h1, by rw [h2, List.append_assoc]; rfl⟩
theorem compR_ok {α : Type} {r : Env} {tg : Tg} {cs : EL} {elt : E} (g : α → W) (R : α → Option PyData → Prop) (b : Nat) {xs : List α} (hl : xs.length ≤ cap) (h : ∀ x ∈ xs, Ok b (stepC fs gs r tg cs elt (g x)) (R x)) :
    Ok (b * xs.length) (compR fs gs r tg cs elt (xs.map g)) (fun w => ∃ os, All2 R xs os ∧ w = .d (.list (os.filterMap id))) := by
  unfold compR
  rw [if_pos (by rw [List.length_map]; exact hl)]
  refine (Ok.bind (b1 := b * xs.length) (b2 := 0) (Ok.nox (compM_ok g R b (acc := []) h)) fun ds ⟨os, h1, h2⟩ => Ok.ret ⟨os, h1, by rw [h2]; rfl⟩).imp (Nat.le_refl _) fun _ z => z
/-- a loop that draws -/
theorem forR_ok {tg : Tg} {body : SL} {ws : List W} (b : Nat) (I : Nat → Env → Prop) {r : Env} (h0 : I 0 r)
    (hs : ∀ (i : Nat) w r, ws[i]? = some w → I i r → ∃ r2, asgT tg w r = some r2 ∧ Ok b (evSL fs gs fu body r2) (fun q => q.1 = .nx ∧ I (i + 1) q.2)) : Ok (b * ws.length) (forR fs gs fu tg body r ws) (fun q => q.1 = .nx ∧ I ws.length q.2) := by
  have go : ∀ (rest : List W) (i : Nat) (r : Env), i + rest.length = ws.length → (∀ j w, rest[j]? = some w → ws[i + j]? = some w) → I i r → Ok (b * rest.length) (forR fs gs fu tg body r rest) (fun q => q.1 = .nx ∧ I ws.length q.2) := by
    intro rest
    induction rest with
    | nil =>
      intro i r hl _ hi
      have : i = ws.length := by simpa using hl
      exact Ok.ret ⟨rfl, this ▸ hi⟩
    | cons w rest ih =>
      intro i r hl hw hi
      obtain ⟨r2, h1, h2⟩ := hs i w r (by simpa using hw 0 w rfl) hi
      unfold forR
      rw [forM_cons]
      simp only [h1, opt_some, M.bind_ret]
      refine (Ok.bind (b1 := b) (b2 := b * rest.length) h2 fun q hq => ?_).imp (by rw [List.length_cons, Nat.mul_succ]; omega) fun _ z => z
      obtain ⟨fl, r3⟩ := q
      obtain ⟨e, hI⟩ := hq
      have e : fl = .nx := e
      subst e
      exact ih (i + 1) r3 (by rw [List.length_cons] at hl; omega) (fun j u hj => by
        have := hw (j + 1) u (by simpa using hj)
        rw [show i + 1 + j = i + (j + 1) by omega]
        exact this) hI
  exact go ws 0 r (by simp) (fun j w h => by simpa using h) h0
end
theorem all2_sub {α : Type} {R : α → Option PyData → Prop} (h : α → PyData) (hR : ∀ x o, R x o → o = none ∨ o = some (h x)) : ∀ {xs : List α} {os : List (Option PyData)}, All2 R xs os → ∃ zs : List α, zs.Sublist xs ∧ os.filterMap id = zs.map h
  | _, _, .nil => ⟨[], .slnil, rfl⟩
  | _, _, .cons (a := a) (as := as) r t => by
    obtain ⟨zs, h1, h2⟩ := all2_sub h hR t
    rcases hR _ _ r with rfl | rfl
    · exact ⟨zs, h1.cons _, by simpa using h2⟩
    · exact ⟨a :: zs, h1.cons_cons _, by simpa using h2⟩
theorem itRng_ok {a b : Int} (h1 : -100 ≤ a) (h2 : a ≤ 100) (h3 : -100 ≤ b) (h4 : b ≤ 100) : itRng a b = some ((List.range (b - a).toNat).map fun (k : Nat) => W.i (a + (k : Int))) := by
  unfold itRng
  rw [if_pos (by omega)]
/-! ### what comes to a goal -/
inductive Comes (ar : List (Int × Int)) (lot goal : List Int) : Int → Prop
  | here {x : Int} : x ∈ goal → Comes ar lot goal x
  | step {x y : Int} : (x, y) ∈ ar → y ∈ lot → Comes ar lot goal y → Comes ar lot goal x
theorem mem_outs {ar : List (Int × Int)} {lot : List Int} {x y : Int} : y ∈ outs ar lot x ↔ (x, y) ∈ ar ∧ y ∈ lot := by
  unfold outs
  rw [List.mem_filterMap]
  constructor
  · rintro ⟨⟨a, b⟩, h1, h2⟩
    by_cases h : a = x ∧ b ∈ lot
    · rw [if_pos h] at h2
      cases h2
      obtain ⟨rfl, h⟩ := h
      exact ⟨h1, h⟩
    · rw [if_neg h] at h2; cases h2
  · rintro ⟨h1, h2⟩
    exact ⟨(x, y), h1, by rw [if_pos ⟨rfl, h2⟩]⟩
/-- arrows go up, the lot ascends: what is found is what comes to the goal -/
theorem leadF_comes {ar : List (Int × Int)} {lot goal : List Int} (ha : ∀ p ∈ ar, p.1 < p.2) (hasc : lot.Pairwise (· < ·)) : ∀ x, x ∈ leadF ar lot goal lot.reverse [] ↔ x ∈ lot ∧ Comes ar lot goal x := by
  have go : ∀ (rest done found : List Int), rest.reverse ++ done = lot → (∀ x, x ∈ found ↔ x ∈ done ∧ Comes ar lot goal x) → ∀ x, x ∈ leadF ar lot goal rest found ↔ x ∈ lot ∧ Comes ar lot goal x := by
    intro rest
    induction rest with
    | nil =>
      intro done found h hf x
      have : done = lot := by simpa using h
      subst this
      exact hf x
    | cons z rest ih =>
      intro done found h hf x
      rw [leadF_cons]
      have hz : rest.reverse ++ (z :: done) = lot := by rw [← h]; simp
      have up : ∀ y ∈ lot, z < y → y ∈ done := by
        intro y hy hlt
        rw [← hz] at hy hasc
        rcases List.mem_append.mp hy with h1 | h1
        · have := (List.pairwise_append.mp hasc).2.2 y h1 z List.mem_cons_self
          omega
        · rcases List.mem_cons.mp h1 with rfl | h1
          · omega
          · exact h1
      have key : (z ∈ goal ∨ ∃ y ∈ outs ar lot z, y ∈ found) ↔ Comes ar lot goal z := by
        constructor
        · rintro (h1 | ⟨y, h1, h2⟩)
          · exact .here h1
          · exact .step (mem_outs.mp h1).1 (mem_outs.mp h1).2 ((hf y).mp h2).2
        · intro h1
          cases h1 with
          | here h1 => exact .inl h1
          | step h1 h2 h3 => exact .inr ⟨_, mem_outs.mpr ⟨h1, h2⟩, (hf _).mpr ⟨up _ h2 (ha _ h1), h3⟩⟩
      refine ih (z :: done) _ hz (fun y => ?_) x
      by_cases hc : z ∈ goal ∨ ∃ y ∈ outs ar lot z, y ∈ found
      · rw [if_pos hc]
        constructor
        · intro h1
          rcases List.mem_append.mp h1 with h1 | h1
          · exact ⟨List.mem_cons_of_mem _ ((hf y).mp h1).1, ((hf y).mp h1).2⟩
          · have : y = z := by simpa using h1
            subst this
            exact ⟨List.mem_cons_self, key.mp hc⟩
        · rintro ⟨h1, h2⟩
          rcases List.mem_cons.mp h1 with rfl | h1
          · exact List.mem_append_right _ (by simp)
          · exact List.mem_append_left _ ((hf y).mpr ⟨h1, h2⟩)
      · rw [if_neg hc]
        constructor
        · intro h1
          exact ⟨List.mem_cons_of_mem _ ((hf y).mp h1).1, ((hf y).mp h1).2⟩
        · rintro ⟨h1, h2⟩
          rcases List.mem_cons.mp h1 with rfl | h1
          · exact absurd (key.mpr h2) hc
          · exact (hf y).mpr ⟨h1, h2⟩
  exact go lot.reverse [] [] (by simp) (by simp)
end DS

set_option Elab.async false
set_option linter.all false
set_option autoImplicit false
set_option maxRecDepth 100000
set_option maxHeartbeats 8000000
/-! k03: the text, printed by gen.py. -/
namespace DK03
open PySem PySem.Spec PyProof.Rows L2 DS
def topS (i : Nat) : Stmt := PySem.Challenge.pw_deedseen_k03_whole_goals.main.body.getD i (.Pass ⟨0, 0, 0, 0⟩)
def kws : List (Nat × Nat × List Str × List Nat) := [(17, 0, ["ends", "shut", "drawing"], [2, 1, 0])]
def gns : List Str := ["MOST_THINGS", "MOST_CAUSES"]
def gss : List W := [.i 10, .i 20]
/-- _law_mixed -/
abbrev s0 : Stmt := topS 23
theorem sc0 : FnScope ["cell", "k"] ["cell", "k"] (defScope s0) := C8.fnScope_by (by decide +kernel)
abbrev b0 : SL := mixB
def ct0 : Ct := ⟨["cell", "k"], [], gns, kws⟩
theorem ck0 : chkSL ct0 (defScope s0) (fun _ => true) b0 (defBody s0) = true := by decide +kernel
/-- _law_draw -/
abbrev s1 : Stmt := topS 25
theorem sc1 : FnScope ["state", "limit", "at", "place", "left", "number"] ["state", "limit"] (defScope s1) := C8.fnScope_by (by decide +kernel)
/-- _law_like -/
abbrev s2 : Stmt := topS 29
theorem sc2 : FnScope ["got", "due"] ["got", "due"] (defScope s2) := C8.fnScope_by (by decide +kernel)
/-- is_from -/
abbrev s3 : Stmt := topS 7
theorem sc3 : FnScope ["value", "low", "high"] ["value", "low", "high"] (defScope s3) := C8.fnScope_by (by decide +kernel)
abbrev b3 : SL := PB_is_from
def ct3 : Ct := ⟨["value", "low", "high"], ["_law_mixed", "_law_draw", "_law_like"], gns, kws⟩
theorem ck3 : chkSL ct3 (defScope s3) (fun _ => true) b3 (defBody s3) = true := by decide +kernel
/-- is_set -/
abbrev s4 : Stmt := topS 8
theorem sc4 : FnScope ["value", "most", "item", "near", "far"] ["value", "most"] (defScope s4) := C8.fnScope_by (by decide +kernel)
abbrev b4 : SL := PB_is_set 3
def ct4 : Ct := ⟨["value", "most", "item", "near", "far"], ["_law_mixed", "_law_draw", "_law_like", "is_from"], gns, kws⟩
theorem ck4 : chkSL ct4 (defScope s4) (fun _ => true) b4 (defBody s4) = true := by decide +kernel
/-- is_arrow -/
abbrev s5 : Stmt := topS 9
theorem sc5 : FnScope ["count", "value"] ["count", "value"] (defScope s5) := C8.fnScope_by (by decide +kernel)
abbrev b5 : SL := PB_is_arrow 3
def ct5 : Ct := ⟨["count", "value"], ["_law_mixed", "_law_draw", "_law_like", "is_from", "is_set"], gns, kws⟩
theorem ck5 : chkSL ct5 (defScope s5) (fun _ => true) b5 (defBody s5) = true := by decide +kernel
/-- is_cause -/
abbrev s6 : Stmt := topS 10
theorem sc6 : FnScope ["count", "value"] ["count", "value"] (defScope s6) := C8.fnScope_by (by decide +kernel)
abbrev b6 : SL := PB_is_cause 4
def ct6 : Ct := ⟨["count", "value"], ["_law_mixed", "_law_draw", "_law_like", "is_from", "is_set", "is_arrow"], gns, kws⟩
theorem ck6 : chkSL ct6 (defScope s6) (fun _ => true) b6 (defBody s6) = true := by decide +kernel
/-- check_items -/
abbrev s7 : Stmt := topS 11
theorem sc7 : FnScope ["count", "value", "place", "judge", "at", "item"] ["count", "value", "place", "judge"] (defScope s7) := C8.fnScope_by (by decide +kernel)
abbrev b7 : SL := PB_check_items
def ct7 : Ct := ⟨["count", "value", "place", "judge", "at", "item"], ["_law_mixed", "_law_draw", "_law_like", "is_from", "is_set", "is_arrow", "is_cause"], gns, kws⟩
theorem ck7 : chkSL ct7 (defScope s7) (fun _ => true) b7 (defBody s7) = true := by decide +kernel
/-- check_drawing -/
abbrev s8 : Stmt := topS 12
theorem sc8 : FnScope ["value", "count", "arrows", "causes"] ["value"] (defScope s8) := C8.fnScope_by (by decide +kernel)
abbrev b8 : SL := PB_check_drawing 7 6 1 5 3 0
def ct8 : Ct := ⟨["value", "count", "arrows", "causes"], ["_law_mixed", "_law_draw", "_law_like", "is_from", "is_set", "is_arrow", "is_cause", "check_items"], gns, kws⟩
theorem ck8 : chkSL ct8 (defScope s8) (fun _ => true) b8 (defBody s8) = true := by decide +kernel
/-- check_lot -/
abbrev s9 : Stmt := topS 13
theorem sc9 : FnScope ["drawing", "value"] ["drawing", "value"] (defScope s9) := C8.fnScope_by (by decide +kernel)
abbrev b9 : SL := PB_check_lot 4
def ct9 : Ct := ⟨["drawing", "value"], ["_law_mixed", "_law_draw", "_law_like", "is_from", "is_set", "is_arrow", "is_cause", "check_items", "check_drawing"], gns, kws⟩
theorem ck9 : chkSL ct9 (defScope s9) (fun _ => true) b9 (defBody s9) = true := by decide +kernel
/-- is_within -/
abbrev s10 : Stmt := topS 14
theorem sc10 : FnScope ["lot", "some", "thing"] ["lot", "some"] (defScope s10) := C8.fnScope_by (by decide +kernel)
abbrev b10 : SL := PB_is_within
def ct10 : Ct := ⟨["lot", "some", "thing"], ["_law_mixed", "_law_draw", "_law_like", "is_from", "is_set", "is_arrow", "is_cause", "check_items", "check_drawing", "check_lot"], gns, kws⟩
theorem ck10 : chkSL ct10 (defScope s10) (fun _ => true) b10 (defBody s10) = true := by decide +kernel
/-- check_within -/
abbrev s11 : Stmt := topS 15
theorem sc11 : FnScope ["drawing", "lot", "value"] ["drawing", "lot", "value"] (defScope s11) := C8.fnScope_by (by decide +kernel)
abbrev b11 : SL := PB_check_within 10 9
def ct11 : Ct := ⟨["drawing", "lot", "value"], ["_law_mixed", "_law_draw", "_law_like", "is_from", "is_set", "is_arrow", "is_cause", "check_items", "check_drawing", "check_lot", "is_within"], gns, kws⟩
theorem ck11 : chkSL ct11 (defScope s11) (fun _ => true) b11 (defBody s11) = true := by decide +kernel
/-- every_so -/
abbrev s12 : Stmt := topS 16
theorem sc12 : FnScope ["drawing"] ["drawing"] (defScope s12) := C8.fnScope_by (by decide +kernel)
abbrev b12 : SL := PB_every_so
def ct12 : Ct := ⟨["drawing"], ["_law_mixed", "_law_draw", "_law_like", "is_from", "is_set", "is_arrow", "is_cause", "check_items", "check_drawing", "check_lot", "is_within", "check_within"], gns, kws⟩
theorem ck12 : chkSL ct12 (defScope s12) (fun _ => true) b12 (defBody s12) = true := by decide +kernel
/-- less_so -/
abbrev s13 : Stmt := topS 17
theorem sc13 : FnScope ["lot", "some", "thing"] ["lot", "some"] (defScope s13) := C8.fnScope_by (by decide +kernel)
abbrev b13 : SL := PB_less_so
def ct13 : Ct := ⟨["lot", "some", "thing"], ["_law_mixed", "_law_draw", "_law_like", "is_from", "is_set", "is_arrow", "is_cause", "check_items", "check_drawing", "check_lot", "is_within", "check_within", "every_so"], gns, kws⟩
theorem ck13 : chkSL ct13 (defScope s13) (fun _ => true) b13 (defBody s13) = true := by decide +kernel
/-- children_so -/
abbrev s14 : Stmt := topS 18
theorem sc14 : FnScope ["drawing", "lot", "thing", "near", "far"] ["drawing", "lot", "thing"] (defScope s14) := C8.fnScope_by (by decide +kernel)
abbrev b14 : SL := PB_children_so
def ct14 : Ct := ⟨["drawing", "lot", "thing", "near", "far"], ["_law_mixed", "_law_draw", "_law_like", "is_from", "is_set", "is_arrow", "is_cause", "check_items", "check_drawing", "check_lot", "is_within", "check_within", "every_so", "less_so"], gns, kws⟩
theorem ck14 : chkSL ct14 (defScope s14) (fun _ => true) b14 (defBody s14) = true := by decide +kernel
/-- leading_so -/
abbrev s15 : Stmt := topS 19
theorem sc15 : FnScope ["drawing", "lot", "goal", "found", "thing", "child"] ["drawing", "lot", "goal"] (defScope s15) := C8.fnScope_by (by decide +kernel)
abbrev b15 : SL := PB_leading_so 14
def ct15 : Ct := ⟨["drawing", "lot", "goal", "found", "thing", "child"], ["_law_mixed", "_law_draw", "_law_like", "is_from", "is_set", "is_arrow", "is_cause", "check_items", "check_drawing", "check_lot", "is_within", "check_within", "every_so", "less_so", "children_so"], gns, kws⟩
theorem ck15 : chkSL ct15 (defScope s15) (fun _ => true) b15 (defBody s15) = true := by decide +kernel
/-- leading -/
abbrev s16 : Stmt := topS 20
theorem sc16 : FnScope ["drawing", "lot", "goal"] ["drawing", "lot", "goal"] (defScope s16) := C8.fnScope_by (by decide +kernel)
abbrev b16 : SL := PB_leading 15 11 9 8
def ct16 : Ct := ⟨["drawing", "lot", "goal"], ["_law_mixed", "_law_draw", "_law_like", "is_from", "is_set", "is_arrow", "is_cause", "check_items", "check_drawing", "check_lot", "is_within", "check_within", "every_so", "less_so", "children_so", "leading_so"], gns, kws⟩
theorem ck16 : chkSL ct16 (defScope s16) (fun _ => true) b16 (defBody s16) = true := by decide +kernel
/-- goal_of -/
abbrev s17 : Stmt := topS 21
theorem sc17 : FnScope ["drawing", "shut", "ends", "free"] ["drawing", "shut", "ends"] (defScope s17) := C8.fnScope_by (by decide +kernel)
abbrev b17 : SL := PB_goal_of 15 11 13 12 9 8
def ct17 : Ct := ⟨["drawing", "shut", "ends", "free"], ["_law_mixed", "_law_draw", "_law_like", "is_from", "is_set", "is_arrow", "is_cause", "check_items", "check_drawing", "check_lot", "is_within", "check_within", "every_so", "less_so", "children_so", "leading_so", "leading"], gns, kws⟩
theorem ck17 : chkSL ct17 (defScope s17) (fun _ => true) b17 (defBody s17) = true := by decide +kernel
/-- _law_drawing -/
abbrev s18 : Stmt := topS 26
theorem sc18 : FnScope ["state", "low", "high", "count", "arrows_so", "near", "far"] ["state", "low", "high"] (defScope s18) := C8.fnScope_by (by decide +kernel)
def b18 : SL := (.cons (.asg (.n 3) (.bin .add (.v 1) (.call 1 (.cons (.v 0) (.cons (.bin .add (.bin .sub (.v 2) (.v 1)) (.int 1)) .nil))))) (.cons (.asg (.n 4) (.lst .nil)) (.cons (.forr (.n 5) (.rng1 (.v 3)) (.cons (.asg (.n 4) (.bin .add (.v 4) (.comp (.n 6) (.rng2 (.bin .add (.v 5) (.int 1)) (.v 3)) (.cons (.cmp .eq (.call 1 (.cons (.v 0) (.cons (.int 2) .nil))) (.int 0)) .nil) (.tup (.cons (.v 5) (.cons (.v 6) .nil)))))) .nil)) (.cons (.ret (.tup (.cons (.v 3) (.cons (.b1 .tuple (.v 4)) (.cons (.tup .nil) .nil))))) .nil))))
def ct18 : Ct := ⟨["state", "low", "high", "count", "arrows_so", "near", "far"], ["_law_mixed", "_law_draw", "_law_like", "is_from", "is_set", "is_arrow", "is_cause", "check_items", "check_drawing", "check_lot", "is_within", "check_within", "every_so", "less_so", "children_so", "leading_so", "leading", "goal_of"], gns, kws⟩
theorem ck18 : chkSL ct18 (defScope s18) (fun _ => true) b18 (defBody s18) = true := by decide +kernel
/-- _law_comes -/
abbrev s19 : Stmt := topS 27
theorem sc19 : FnScope ["arrows_so", "lot_so", "spot", "targets", "near", "far"] ["arrows_so", "lot_so", "spot", "targets"] (defScope s19) := C8.fnScope_by (by decide +kernel)
def b19 : SL := (.cons (.ite (.cmp .isin (.v 2) (.v 3)) (.cons (.ret (.bl true)) .nil) .nil) (.cons (.forr (.t (.cons (.n 4) (.cons (.n 5) .nil))) (.of (.v 0)) (.cons (.ite (.bop true (.cons (.cmp .eq (.v 4) (.v 2)) (.cons (.cmp .isin (.v 5) (.v 1)) (.cons (.call 19 (.cons (.v 0) (.cons (.v 1) (.cons (.v 5) (.cons (.v 3) .nil))))) .nil)))) (.cons (.ret (.bl true)) .nil) .nil) .nil)) (.cons (.ret (.bl false)) .nil)))
def ct19 : Ct := ⟨["arrows_so", "lot_so", "spot", "targets", "near", "far"], ["_law_mixed", "_law_draw", "_law_like", "is_from", "is_set", "is_arrow", "is_cause", "check_items", "check_drawing", "check_lot", "is_within", "check_within", "every_so", "less_so", "children_so", "leading_so", "leading", "goal_of", "_law_drawing", "_law_comes"], gns, kws⟩
theorem ck19 : chkSL ct19 (defScope s19) (fun _ => true) b19 (defBody s19) = true := by decide +kernel
/-- _law_due -/
abbrev s20 : Stmt := topS 28
theorem sc20 : FnScope ["draw_so", "closed", "targets", "outside", "spot"] ["draw_so", "closed", "targets"] (defScope s20) := C8.fnScope_by (by decide +kernel)
def b20 : SL := (.cons (.asg (.n 3) (.comp (.n 4) (.rng1 (.ix (.v 0) (.int 0))) (.cons (.cmp .notin (.v 4) (.v 1)) .nil) (.v 4))) (.cons (.ret (.b1 .tuple (.comp (.n 4) (.of (.v 3)) (.cons (.call 19 (.cons (.ix (.v 0) (.int 1)) (.cons (.v 3) (.cons (.v 4) (.cons (.v 2) .nil))))) .nil) (.v 4)))) .nil))
def ct20 : Ct := ⟨["draw_so", "closed", "targets", "outside", "spot"], ["_law_mixed", "_law_draw", "_law_like", "is_from", "is_set", "is_arrow", "is_cause", "check_items", "check_drawing", "check_lot", "is_within", "check_within", "every_so", "less_so", "children_so", "leading_so", "leading", "goal_of", "_law_drawing", "_law_comes"], gns, kws⟩
theorem ck20 : chkSL ct20 (defScope s20) (fun _ => true) b20 (defBody s20) = true := by decide +kernel
/-- _law_right -/
abbrev s21 : Stmt := topS 30
theorem sc21 : FnScope ["state", "draw_so", "kinds", "spot", "closed", "kind", "targets", "due", "open_so", "less", "more", "others_so"] ["state"] (defScope s21) := C8.fnScope_by (by decide +kernel)
def b21 : SL := (.cons (.asg (.n 1) (.call 18 (.cons (.v 0) (.cons (.int 1) (.cons (.int 10) .nil))))) (.cons (.asg (.n 2) (.comp (.n 3) (.rng1 (.ix (.v 1) (.int 0))) .nil (.call 1 (.cons (.v 0) (.cons (.int 4) .nil))))) (.cons (.asg (.n 4) (.b1 .tuple (.comp (.t (.cons (.n 3) (.cons (.n 5) .nil))) (.enum (.v 2)) (.cons (.cmp .eq (.v 5) (.int 0)) .nil) (.v 3)))) (.cons (.asg (.n 6) (.b1 .tuple (.comp (.t (.cons (.n 3) (.cons (.n 5) .nil))) (.enum (.v 2)) (.cons (.cmp .eq (.v 5) (.int 1)) .nil) (.v 3)))) (.cons (.asg (.n 7) (.call 20 (.cons (.v 1) (.cons (.v 4) (.cons (.v 6) .nil))))) (.cons (.ite (.not (.call 2 (.cons (.call 17 (.cons (.v 1) (.cons (.v 4) (.cons (.v 6) .nil)))) (.cons (.v 7) .nil)))) (.cons (.ret (.bl false)) .nil) .nil) (.cons (.asg (.n 8) (.b1 .tuple (.comp (.n 3) (.rng1 (.ix (.v 1) (.int 0))) (.cons (.cmp .notin (.v 3) (.v 4)) .nil) (.v 3)))) (.cons (.ite (.not (.call 2 (.cons (.call 16 (.cons (.v 1) (.cons (.v 8) (.cons (.v 6) .nil)))) (.cons (.v 7) .nil)))) (.cons (.ret (.bl false)) .nil) .nil) (.cons (.asg (.n 9) (.sl (.v 4) .nil (.cons (.neg (.int 1)) .nil))) (.cons (.ite (.cmp .ne (.comp (.n 3) (.of (.v 7)) (.cons (.cmp .notin (.v 3) (.call 17 (.cons (.v 1) (.cons (.v 9) (.cons (.v 6) .nil))))) .nil) (.int 1)) (.lst .nil)) (.cons (.ret (.bl false)) .nil) .nil) (.cons (.asg (.n 10) (.b1 .tuple (.comp (.t (.cons (.n 3) (.cons (.n 5) .nil))) (.enum (.v 2)) (.cons (.cmp .isin (.v 5) (.tup (.cons (.int 1) (.cons (.int 2) .nil)))) .nil) (.v 3)))) (.cons (.ite (.cmp .ne (.comp (.n 3) (.of (.v 7)) (.cons (.cmp .notin (.v 3) (.call 17 (.cons (.v 1) (.cons (.v 4) (.cons (.v 10) .nil))))) .nil) (.int 1)) (.lst .nil)) (.cons (.ret (.bl false)) .nil) .nil) (.cons (.asg (.n 11) (.b1 .tuple (.comp (.n 3) (.rng1 (.ix (.v 1) (.int 0))) (.cons (.cmp .notin (.v 3) (.v 6)) .nil) (.v 3)))) (.cons (.ret (.call 2 (.cons (.lst (.cons (.call 17 (.cons (.v 1) (.cons (.v 11) (.cons (.v 6) .nil)))) (.cons (.call 17 (.cons (.v 1) (.cons (.v 4) (.cons (.tup .nil) .nil)))) .nil))) (.cons (.lst (.cons (.v 6) (.cons (.tup .nil) .nil))) .nil)))) .nil))))))))))))))
def ct21 : Ct := ⟨["state", "draw_so", "kinds", "spot", "closed", "kind", "targets", "due", "open_so", "less", "more", "others_so"], ["_law_mixed", "_law_draw", "_law_like", "is_from", "is_set", "is_arrow", "is_cause", "check_items", "check_drawing", "check_lot", "is_within", "check_within", "every_so", "less_so", "children_so", "leading_so", "leading", "goal_of", "_law_drawing", "_law_comes", "_law_due"], gns, kws⟩
theorem ck21 : chkSL ct21 (defScope s21) (fun _ => true) b21 (defBody s21) = true := by decide +kernel
/-- _law_begin -/
abbrev sB : Stmt := topS 24
theorem scB : FnScope ["script", "cells_so", "cell"] ["script"] (defScope sB) := C8.fnScope_by (by decide +kernel)
/-- law -/
abbrev sL : Stmt := topS 31
theorem scL : FnScope ["script", "state", "turn", "told", "got"] ["script"] (defScope sL) := C8.fnScope_by (by decide +kernel)
def bL : SL := (.cons (.forr (.n 2) (.rng1 (.int 6)) (.cons (.ite (.not (.call 21 (.cons (.v 1) .nil))) (.cons (.ret (.bl false)) .nil) .nil) .nil)) (.cons (.asg (.n 3) (.tup (.cons (.int 4) (.cons (.tup (.cons (.tup (.cons (.int 0) (.cons (.int 1) .nil))) (.cons (.tup (.cons (.int 0) (.cons (.int 2) .nil))) (.cons (.tup (.cons (.int 1) (.cons (.int 3) .nil))) (.cons (.tup (.cons (.int 2) (.cons (.int 3) .nil))) .nil))))) (.cons (.tup .nil) .nil))))) (.cons (.asg (.n 4) (.lst (.cons (.callk 17 0 ["ends", "shut", "drawing"] [2, 1, 0] (.cons (.tup (.cons (.int 3) .nil)) (.cons (.tup (.cons (.int 1) .nil)) (.cons (.v 3) .nil)))) (.cons (.call 17 (.cons (.v 3) (.cons (.tup (.cons (.int 1) (.cons (.int 2) .nil))) (.cons (.tup (.cons (.int 3) .nil)) .nil)))) (.cons (.call 17 (.cons (.v 3) (.cons (.tup .nil) (.cons (.tup (.cons (.int 0) .nil)) .nil)))) .nil))))) (.cons (.ret (.call 2 (.cons (.v 4) (.cons (.lst (.cons (.tup (.cons (.int 0) (.cons (.int 2) (.cons (.int 3) .nil)))) (.cons (.tup (.cons (.int 3) .nil)) (.cons (.tup (.cons (.int 0) .nil)) .nil)))) .nil)))) .nil))))
def ctL : Ct := ⟨["script", "state", "turn", "told", "got"], ["_law_mixed", "_law_draw", "_law_like", "is_from", "is_set", "is_arrow", "is_cause", "check_items", "check_drawing", "check_lot", "is_within", "check_within", "every_so", "less_so", "children_so", "leading_so", "leading", "goal_of", "_law_drawing", "_law_comes", "_law_due", "_law_right"], gns, kws⟩
theorem ckL : chkSL ctL (defScope sL) (fun _ => true) bL (defBody sL).tail = true := by decide +kernel
def F0 : List W → M W := evD [] gss 0 2 2 mixB
def fs1 : Fns := [] ++ [F0]
abbrev F1 : List W → M W := drawF
def fs2 : Fns := fs1 ++ [F1]
abbrev F2 : List W → M W := likeF
def fs3 : Fns := fs2 ++ [F2]
def F3 : List W → M W := evD fs3 gss 200 3 3 b3
def fs4 : Fns := fs3 ++ [F3]
def F4 : List W → M W := evD fs4 gss 200 5 2 b4
def fs5 : Fns := fs4 ++ [F4]
def F5 : List W → M W := evD fs5 gss 200 2 2 b5
def fs6 : Fns := fs5 ++ [F5]
def F6 : List W → M W := evD fs6 gss 200 2 2 b6
def fs7 : Fns := fs6 ++ [F6]
def F7 : List W → M W := evD fs7 gss 200 6 4 b7
def fs8 : Fns := fs7 ++ [F7]
def F8 : List W → M W := evD fs8 gss 200 4 1 b8
def fs9 : Fns := fs8 ++ [F8]
def F9 : List W → M W := evD fs9 gss 200 2 2 b9
def fs10 : Fns := fs9 ++ [F9]
def F10 : List W → M W := evD fs10 gss 200 3 2 b10
def fs11 : Fns := fs10 ++ [F10]
def F11 : List W → M W := evD fs11 gss 200 3 3 b11
def fs12 : Fns := fs11 ++ [F11]
def F12 : List W → M W := evD fs12 gss 200 1 1 b12
def fs13 : Fns := fs12 ++ [F12]
def F13 : List W → M W := evD fs13 gss 200 3 2 b13
def fs14 : Fns := fs13 ++ [F13]
def F14 : List W → M W := evD fs14 gss 200 5 3 b14
def fs15 : Fns := fs14 ++ [F14]
def F15 : List W → M W := evD fs15 gss 200 6 3 b15
def fs16 : Fns := fs15 ++ [F15]
def F16 : List W → M W := evD fs16 gss 200 3 3 b16
def fs17 : Fns := fs16 ++ [F16]
def F17 : List W → M W := evD fs17 gss 200 4 3 b17
def fs18 : Fns := fs17 ++ [F17]
def F18 : List W → M W := evD fs18 gss 200 7 3 b18
def fs19 : Fns := fs18 ++ [F18]
def F19 : List W → M W := evR fs19 gss 200 6 4 b19 20
def fs20 : Fns := fs19 ++ [F19]
def F20 : List W → M W := evD fs20 gss 200 5 3 b20
def fs21 : Fns := fs20 ++ [F20]
def F21 : List W → M W := evD fs21 gss 200 12 1 b21
def fs22 : Fns := fs21 ++ [F21]
def nm0 : List Str := []
def nm1 : List Str := nm0 ++ [("_law_mixed" : Str)]
def nm2 : List Str := nm1 ++ [("_law_draw" : Str)]
def nm3 : List Str := nm2 ++ [("_law_like" : Str)]
def nm4 : List Str := nm3 ++ [("is_from" : Str)]
def nm5 : List Str := nm4 ++ [("is_set" : Str)]
def nm6 : List Str := nm5 ++ [("is_arrow" : Str)]
def nm7 : List Str := nm6 ++ [("is_cause" : Str)]
def nm8 : List Str := nm7 ++ [("check_items" : Str)]
def nm9 : List Str := nm8 ++ [("check_drawing" : Str)]
def nm10 : List Str := nm9 ++ [("check_lot" : Str)]
def nm11 : List Str := nm10 ++ [("is_within" : Str)]
def nm12 : List Str := nm11 ++ [("check_within" : Str)]
def nm13 : List Str := nm12 ++ [("every_so" : Str)]
def nm14 : List Str := nm13 ++ [("less_so" : Str)]
def nm15 : List Str := nm14 ++ [("children_so" : Str)]
def nm16 : List Str := nm15 ++ [("leading_so" : Str)]
def nm17 : List Str := nm16 ++ [("leading" : Str)]
def nm18 : List Str := nm17 ++ [("goal_of" : Str)]
def nm19 : List Str := nm18 ++ [("_law_drawing" : Str)]
def nm20 : List Str := nm19 ++ [("_law_comes" : Str)]
def nm21 : List Str := nm20 ++ [("_law_due" : Str)]
def nm22 : List Str := nm21 ++ [("_law_right" : Str)]
section
variable {T : Stc} {kw : List (Nat × Nat × List Str × List Nat)} {E : XK} {f : Addr} {cdv : Value} {A : Around} {outer : List PySem.Env} {s : Shared} {H : Hp}
abbrev CXD (T : Stc) (N : List Str) (x : Str) (st : Stmt) (f : Addr) (cdv : Value) (A : Around) (outer : List PySem.Env) (s : Shared) (H : Hp) (E : XK) : Cx := cxOf (L2.CX T.P T.w) T.P T.w T.K T.mg T.base N x (defScope st) f cdv A outer s H E
theorem draw_ps {g : Gnd} {k : Nat} (g0 : g.gs = gss) (tk : TOk (mkT g nm1 fs1 k) kw) (room : Room k (A.deeper (envOfC "_law_draw" (defScope s1) s.heap.objs.size f cdv))) (gd : A.guards = some []) :
    PSs (CXD (mkT g nm1 fs1 k) ["state", "limit", "at", "place", "left", "number"] "_law_draw" s1 f cdv A outer s H E) (defBody s1) (drawTS (mkT g nm1 fs1 k) E) := by
  have xs := xst_def (T := mkT g nm1 fs1 k) (qual := "_law_draw") (f := f) (cdv := cdv) (outer := outer) (s := s) (H := H) (E := E) sc1 room gd
  have hu : (CXD (mkT g nm1 fs1 k) ["state", "limit", "at", "place", "left", "number"] "_law_draw" s1 f cdv A outer s H E).A.units + 65 < cLine := xs.xo.hu
  have nd := (sc1).nd
  have mI : g.mg "int" = none := tk.bn _ (by decide)
  have mL : g.mg "len" = none := tk.bn _ (by decide)
  obtain ⟨F, n, fd, ps, h1, h2, h3, h4, h5, h6, h7, _⟩ := tk.fns 0 "_law_mixed" rfl
  cases h1
  subst h5
  have hn : 2 = ps.length := h7 [.i 0, .i 0] 0 (fun _ _ => True) (fun _ _ => False) (by show (evD [] gss 0 2 2 mixB [.i 0, .i 0]).wp _ _ _; rw [mix_ret (by omega) (by omega)]; trivial)
  have cm : ∀ {e1 e2 : Expr} {ta tb : TE} {p pos : Pos} (ha : PE (CXD (mkT g nm1 fs1 k) ["state", "limit", "at", "place", "left", "number"] "_law_draw" s1 f cdv A outer s H E) e1 ta) (hb : PE (CXD (mkT g nm1 fs1 k) ["state", "limit", "at", "place", "left", "number"] "_law_draw" s1 f cdv A outer s H E) e2 tb) (q1 : star e1 = false) (q2 : star e2 = false),
      PE (CXD (mkT g nm1 fs1 k) ["state", "limit", "at", "place", "left", "number"] "_law_draw" s1 f cdv A outer s H E) (.Call (.Name "_law_mixed" p) [e1, e2] [] pos) (mixS (mkT g nm1 fs1 k) E ta tb) := by
    intro e1 e2 ta tb p pos ha hb q1 q2
    have r := pe_cG (X := CXD (mkT g nm1 fs1 k) ["state", "limit", "at", "place", "left", "number"] "_law_draw" s1 f cdv A outer s H E) (x := "_law_mixed") (p := p) (pos := pos) h6 room gd rfl h2 h3 h4 xs.xo.pas (pa_cons ha (pa_cons hb pa_nil (star_each q2)) (star_each q1)) (by decide) (star_each q1) (star_any fun e he => by
      have : e = e2 := by simpa using he
      rw [this]; exact q2)
    rw [← hn] at r
    unfold mixS
    show PE _ _ (tCG (spM (mkT g nm1 fs1 k) 2 (evD [] g.gs 0 2 2 mixB)) E _)
    rw [g0]
    exact r
  have dg : ∀ {z : Str} {p1 p2 p3 : Pos} {j : Nat}, PE (CXD (mkT g nm1 fs1 k) ["state", "limit", "at", "place", "left", "number"] "_law_draw" s1 f cdv A outer s H E) (.Subscript (.Name "state" p1) (.Constant (.str z) j p2) p3) (stGet z) := fun {z p1 p2 p3 j} => pe_dget (by omega) (pv 0) pe_str (fun _ _ => rfl)
  refine pss_cons (ps_set (i := 2) nd rfl (.inl rfl) dg) ?_
  refine pss_cons (ps_dput (by omega) (pv 0) pe_str (pe_op op_add (pv 2) pe_int) rfl) ?_
  refine pss_cons (ps_set (i := 3) nd rfl (.inl rfl) (pe_op op_mod (pe_callTy call_int1 rfl mI (by decide +kernel) (pa_cons (pv 2) pa_nil)) (pe_callB call_len_seq rfl mL (by decide +kernel) (pa_cons dg pa_nil)))) ?_
  refine pss_cons (ps_set (i := 4) nd rfl (.inl rfl) (pe_ix ix_list dg (pv 3) (fun _ _ => rfl))) ?_
  refine pss_cons (ps_if (pt_cmpR op_gt (pv 4) pe_int rfl) (pss_cons (ps_asg (pe_op op_fdivW (pv 4) (pv 1)) (pg_sub dg (pv 3) set_list)) (pss_one (ps_ret (pe_op op_mod (pe_callTy call_int1 rfl mI (by decide +kernel) (pa_cons (pv 4) pa_nil)) (pv 1))))) pss_nil) ?_
  refine pss_cons (ps_set (i := 5) nd rfl (.inl rfl) (cm (cm (pe_ix ix_list dg (pv 3) (fun _ _ => rfl)) (pv 2) rfl rfl) (pe_op op_add pe_int (pv 2)) rfl rfl)) ?_
  exact pss_one (ps_ret (pe_op op_mod (pe_op op_fdivW (pe_callTy call_int1 rfl mI (by decide +kernel) (pa_cons (pe_op op_add (pe_op op_mulW (pv 5) pe_int) (cm (pv 5) (pe_op op_add pe_int (pv 2)) rfl rfl)) pa_nil)) pe_int) (pv 1)))
theorem like_ps {g : Gnd} {nm : List Str} {fs : Fns} {k : Nat} (tk : TOk (mkT g nm fs k) kw) (room : Room k (A.deeper (envOfC "_law_like" (defScope s2) s.heap.objs.size f cdv))) (gd : A.guards = some []) :
    PSs (CXD (mkT g nm fs k) ["got", "due"] "_law_like" s2 f cdv A outer s H E) (defBody s2) (likeTS g.K) := by
  have xs := xst_def (T := mkT g nm fs k) (qual := "_law_like") (f := f) (cdv := cdv) (outer := outer) (s := s) (H := H) (E := E) sc2 room gd
  have mR : g.mg "repr" = none := tk.bn _ (by decide)
  have cr := call_repr_d (X := CXD (mkT g nm fs k) ["got", "due"] "_law_like" s2 f cdv A outer s H E) gd xs.xo.hu
  exact pss_one (ps_ret (pe_cmpR op_eq (pe_callB cr rfl mR (by decide +kernel) (pa_cons (pv 0) pa_nil)) (pe_callB cr rfl mR (by decide +kernel) (pa_cons (pv 1) pa_nil)) rfl))
def C8X (st : Stmt) : Scope := match (defBody st).getD 1 (.Pass ⟨0, 0, 0, 0⟩) with
  | .Return (some (.Dict _ (_ :: .ListComp _ _ sc _ :: _) _)) _ => sc
  | _ => ⟨.function, [], false, false, []⟩
theorem begin_ps {g : Gnd} {nm : List Str} {fs : Fns} {k : Nat} (tk : TOk (mkT g nm fs k) kw) (room : Room k (A.deeper (envOfC "_law_begin" (defScope sB) s.heap.objs.size f cdv))) (gd : A.guards = some []) :
    PSs (CXD (mkT g nm fs k) ["script", "cells_so", "cell"] "_law_begin" sB f cdv A outer s H E) (defBody sB) (beginTS g.K) := by
  have xs := xst_def (T := mkT g nm fs k) (qual := "_law_begin") (f := f) (cdv := cdv) (outer := outer) (s := s) (H := H) (E := E) scB room gd
  have hu : (CXD (mkT g nm fs k) ["script", "cells_so", "cell"] "_law_begin" sB f cdv A outer s H E).A.units + 64 < cLine := by have z := xs.xo.hu; exact Nat.lt_of_succ_lt z
  have nd := (scB).nd
  have mL : g.mg "list" = none := tk.bn _ (by decide)
  refine pss_cons (ps_set (i := 1) nd rfl (.inl rfl) (pe_ifExp (pt_cmpR (op_neD hu) (pv 0) (pe_lst pa_nil) rfl) (pe_callTy call_list_of rfl mL (by decide +kernel) (pa_cons (pv 0) pa_nil)) (pe_lst (pa_cons pe_int pa_nil)))) ?_
  refine pss_one (ps_ret (pe_disp (pps_cons pe_str ?_ (pps_cons pe_str ?_ (pps_cons pe_str pe_int pps_nil))) rfl rfl (by simp) (by decide)))
  · exact pv 1
  · have bk : BlkOk ["script", "cells_so", "cell"] (defScope sB) (C8X sB) [("cell", 2)] := blkOk_by (by decide +kernel)
    refine pe_lc (own := [("cell", 2)]) rfl nd (pi_list ?_) bk (fun _ _ _ _ _ => ?_) (fun _ _ _ _ _ => pts_nil) (fun _ _ _ _ _ => pe_ifExp (pt_cmpR op_ge ?_ (pe_op op_pow pe_int pe_int) rfl) ?_ pe_int)
    · exact pv 1
    · exact pg_name (i := 2) nd rfl (.inl rfl)
    · exact pv 2
    · exact pv 2
end
section
variable {g : Gnd}
theorem tk0 (hg : g.gn = gns ∧ g.gs = gss) (hz : ∀ (j : Nat) (x : Str), g.gn[j]? = some x → ∃ w u v, g.gs[j]? = some w ∧ g.mg x = some u ∧ RelV v u ∧ ∀ c G, RW g.K g.fa c G v w) (hb : ∀ x ∈ bnames, g.mg x = none) : TOk (mkT g nm0 [] 0) kws := tok_zero hz hb
theorem kwk0 {fd : FuncData} (d : DefK g 0 "_law_mixed" ["cell", "k"] s0 fd) : ∀ q ∈ kws, q.1 = 0 → KwOk g.K fd ["cell", "k"] q.2.1 q.2.2.1 q.2.2.2 := by
  intro q hq he
  simp only [kws, List.mem_cons, List.not_mem_nil, or_false] at hq
  rcases hq with rfl
  · simp at he
theorem tk1 (hg : g.gn = gns ∧ g.gs = gss) {fd : FuncData} (d : DefK g 0 "_law_mixed" ["cell", "k"] s0 fd) (tk : TOk (mkT g nm0 [] 0) kws) : TOk (mkT g nm1 fs1 1) kws := by
  obtain ⟨h1, h2⟩ := hg
  have r := tok_ev (fu := 0) tk (ct := ct0) d ⟨rfl, h1.symm, rfl⟩ sc0 rfl ck0 (kwk0 d)
  rw [h2] at r
  exact r
theorem kwk1 {fd : FuncData} (d : DefK g 1 "_law_draw" ["state", "limit"] s1 fd) : ∀ q ∈ kws, q.1 = 1 → KwOk g.K fd ["state", "limit"] q.2.1 q.2.2.1 q.2.2.2 := by
  intro q hq he
  simp only [kws, List.mem_cons, List.not_mem_nil, or_false] at hq
  rcases hq with rfl
  · simp at he
theorem tk2 (hg : g.gn = gns ∧ g.gs = gss) {fd : FuncData} (d : DefK g 1 "_law_draw" ["state", "limit"] s1 fd) (tk : TOk (mkT g nm1 fs1 1) kws) : TOk (mkT g nm2 fs2 2) kws := by
  obtain ⟨h1, h2⟩ := hg
  exact tok_hand tk d sc1 rfl (fun cdv A outer s H E room gd => draw_ps (g0 := h2) tk room gd) (fun h => draw_key h) (fun _ _ _ _ h => drawF_len h) (kwk1 d)
theorem kwk2 {fd : FuncData} (d : DefK g 2 "_law_like" ["got", "due"] s2 fd) : ∀ q ∈ kws, q.1 = 2 → KwOk g.K fd ["got", "due"] q.2.1 q.2.2.1 q.2.2.2 := by
  intro q hq he
  simp only [kws, List.mem_cons, List.not_mem_nil, or_false] at hq
  rcases hq with rfl
  · simp at he
theorem tk3 (hg : g.gn = gns ∧ g.gs = gss) {fd : FuncData} (d : DefK g 2 "_law_like" ["got", "due"] s2 fd) (tk : TOk (mkT g nm2 fs2 2) kws) : TOk (mkT g nm3 fs3 3) kws := by
  obtain ⟨h1, h2⟩ := hg
  exact tok_hand tk d sc2 rfl (fun cdv A outer s H E room gd => like_ps tk room gd) (fun h => like_key h) (fun _ _ _ _ h => likeF_len h) (kwk2 d)
theorem kwk3 {fd : FuncData} (d : DefK g 3 "is_from" ["value", "low", "high"] s3 fd) : ∀ q ∈ kws, q.1 = 3 → KwOk g.K fd ["value", "low", "high"] q.2.1 q.2.2.1 q.2.2.2 := by
  intro q hq he
  simp only [kws, List.mem_cons, List.not_mem_nil, or_false] at hq
  rcases hq with rfl
  · simp at he
theorem tk4 (hg : g.gn = gns ∧ g.gs = gss) {fd : FuncData} (d : DefK g 3 "is_from" ["value", "low", "high"] s3 fd) (tk : TOk (mkT g nm3 fs3 3) kws) : TOk (mkT g nm4 fs4 4) kws := by
  obtain ⟨h1, h2⟩ := hg
  have r := tok_ev (fu := 200) tk (ct := ct3) d ⟨rfl, h1.symm, rfl⟩ sc3 rfl ck3 (kwk3 d)
  rw [h2] at r
  exact r
theorem kwk4 {fd : FuncData} (d : DefK g 4 "is_set" ["value", "most"] s4 fd) : ∀ q ∈ kws, q.1 = 4 → KwOk g.K fd ["value", "most"] q.2.1 q.2.2.1 q.2.2.2 := by
  intro q hq he
  simp only [kws, List.mem_cons, List.not_mem_nil, or_false] at hq
  rcases hq with rfl
  · simp at he
theorem tk5 (hg : g.gn = gns ∧ g.gs = gss) {fd : FuncData} (d : DefK g 4 "is_set" ["value", "most"] s4 fd) (tk : TOk (mkT g nm4 fs4 4) kws) : TOk (mkT g nm5 fs5 5) kws := by
  obtain ⟨h1, h2⟩ := hg
  have r := tok_ev (fu := 200) tk (ct := ct4) d ⟨rfl, h1.symm, rfl⟩ sc4 rfl ck4 (kwk4 d)
  rw [h2] at r
  exact r
theorem kwk5 {fd : FuncData} (d : DefK g 5 "is_arrow" ["count", "value"] s5 fd) : ∀ q ∈ kws, q.1 = 5 → KwOk g.K fd ["count", "value"] q.2.1 q.2.2.1 q.2.2.2 := by
  intro q hq he
  simp only [kws, List.mem_cons, List.not_mem_nil, or_false] at hq
  rcases hq with rfl
  · simp at he
theorem tk6 (hg : g.gn = gns ∧ g.gs = gss) {fd : FuncData} (d : DefK g 5 "is_arrow" ["count", "value"] s5 fd) (tk : TOk (mkT g nm5 fs5 5) kws) : TOk (mkT g nm6 fs6 6) kws := by
  obtain ⟨h1, h2⟩ := hg
  have r := tok_ev (fu := 200) tk (ct := ct5) d ⟨rfl, h1.symm, rfl⟩ sc5 rfl ck5 (kwk5 d)
  rw [h2] at r
  exact r
theorem kwk6 {fd : FuncData} (d : DefK g 6 "is_cause" ["count", "value"] s6 fd) : ∀ q ∈ kws, q.1 = 6 → KwOk g.K fd ["count", "value"] q.2.1 q.2.2.1 q.2.2.2 := by
  intro q hq he
  simp only [kws, List.mem_cons, List.not_mem_nil, or_false] at hq
  rcases hq with rfl
  · simp at he
theorem tk7 (hg : g.gn = gns ∧ g.gs = gss) {fd : FuncData} (d : DefK g 6 "is_cause" ["count", "value"] s6 fd) (tk : TOk (mkT g nm6 fs6 6) kws) : TOk (mkT g nm7 fs7 7) kws := by
  obtain ⟨h1, h2⟩ := hg
  have r := tok_ev (fu := 200) tk (ct := ct6) d ⟨rfl, h1.symm, rfl⟩ sc6 rfl ck6 (kwk6 d)
  rw [h2] at r
  exact r
theorem kwk7 {fd : FuncData} (d : DefK g 7 "check_items" ["count", "value", "place", "judge"] s7 fd) : ∀ q ∈ kws, q.1 = 7 → KwOk g.K fd ["count", "value", "place", "judge"] q.2.1 q.2.2.1 q.2.2.2 := by
  intro q hq he
  simp only [kws, List.mem_cons, List.not_mem_nil, or_false] at hq
  rcases hq with rfl
  · simp at he
theorem tk8 (hg : g.gn = gns ∧ g.gs = gss) {fd : FuncData} (d : DefK g 7 "check_items" ["count", "value", "place", "judge"] s7 fd) (tk : TOk (mkT g nm7 fs7 7) kws) : TOk (mkT g nm8 fs8 8) kws := by
  obtain ⟨h1, h2⟩ := hg
  have r := tok_ev (fu := 200) tk (ct := ct7) d ⟨rfl, h1.symm, rfl⟩ sc7 rfl ck7 (kwk7 d)
  rw [h2] at r
  exact r
theorem kwk8 {fd : FuncData} (d : DefK g 8 "check_drawing" ["value"] s8 fd) : ∀ q ∈ kws, q.1 = 8 → KwOk g.K fd ["value"] q.2.1 q.2.2.1 q.2.2.2 := by
  intro q hq he
  simp only [kws, List.mem_cons, List.not_mem_nil, or_false] at hq
  rcases hq with rfl
  · simp at he
theorem tk9 (hg : g.gn = gns ∧ g.gs = gss) {fd : FuncData} (d : DefK g 8 "check_drawing" ["value"] s8 fd) (tk : TOk (mkT g nm8 fs8 8) kws) : TOk (mkT g nm9 fs9 9) kws := by
  obtain ⟨h1, h2⟩ := hg
  have r := tok_ev (fu := 200) tk (ct := ct8) d ⟨rfl, h1.symm, rfl⟩ sc8 rfl ck8 (kwk8 d)
  rw [h2] at r
  exact r
theorem kwk9 {fd : FuncData} (d : DefK g 9 "check_lot" ["drawing", "value"] s9 fd) : ∀ q ∈ kws, q.1 = 9 → KwOk g.K fd ["drawing", "value"] q.2.1 q.2.2.1 q.2.2.2 := by
  intro q hq he
  simp only [kws, List.mem_cons, List.not_mem_nil, or_false] at hq
  rcases hq with rfl
  · simp at he
theorem tk10 (hg : g.gn = gns ∧ g.gs = gss) {fd : FuncData} (d : DefK g 9 "check_lot" ["drawing", "value"] s9 fd) (tk : TOk (mkT g nm9 fs9 9) kws) : TOk (mkT g nm10 fs10 10) kws := by
  obtain ⟨h1, h2⟩ := hg
  have r := tok_ev (fu := 200) tk (ct := ct9) d ⟨rfl, h1.symm, rfl⟩ sc9 rfl ck9 (kwk9 d)
  rw [h2] at r
  exact r
theorem kwk10 {fd : FuncData} (d : DefK g 10 "is_within" ["lot", "some"] s10 fd) : ∀ q ∈ kws, q.1 = 10 → KwOk g.K fd ["lot", "some"] q.2.1 q.2.2.1 q.2.2.2 := by
  intro q hq he
  simp only [kws, List.mem_cons, List.not_mem_nil, or_false] at hq
  rcases hq with rfl
  · simp at he
theorem tk11 (hg : g.gn = gns ∧ g.gs = gss) {fd : FuncData} (d : DefK g 10 "is_within" ["lot", "some"] s10 fd) (tk : TOk (mkT g nm10 fs10 10) kws) : TOk (mkT g nm11 fs11 11) kws := by
  obtain ⟨h1, h2⟩ := hg
  have r := tok_ev (fu := 200) tk (ct := ct10) d ⟨rfl, h1.symm, rfl⟩ sc10 rfl ck10 (kwk10 d)
  rw [h2] at r
  exact r
theorem kwk11 {fd : FuncData} (d : DefK g 11 "check_within" ["drawing", "lot", "value"] s11 fd) : ∀ q ∈ kws, q.1 = 11 → KwOk g.K fd ["drawing", "lot", "value"] q.2.1 q.2.2.1 q.2.2.2 := by
  intro q hq he
  simp only [kws, List.mem_cons, List.not_mem_nil, or_false] at hq
  rcases hq with rfl
  · simp at he
theorem tk12 (hg : g.gn = gns ∧ g.gs = gss) {fd : FuncData} (d : DefK g 11 "check_within" ["drawing", "lot", "value"] s11 fd) (tk : TOk (mkT g nm11 fs11 11) kws) : TOk (mkT g nm12 fs12 12) kws := by
  obtain ⟨h1, h2⟩ := hg
  have r := tok_ev (fu := 200) tk (ct := ct11) d ⟨rfl, h1.symm, rfl⟩ sc11 rfl ck11 (kwk11 d)
  rw [h2] at r
  exact r
theorem kwk12 {fd : FuncData} (d : DefK g 12 "every_so" ["drawing"] s12 fd) : ∀ q ∈ kws, q.1 = 12 → KwOk g.K fd ["drawing"] q.2.1 q.2.2.1 q.2.2.2 := by
  intro q hq he
  simp only [kws, List.mem_cons, List.not_mem_nil, or_false] at hq
  rcases hq with rfl
  · simp at he
theorem tk13 (hg : g.gn = gns ∧ g.gs = gss) {fd : FuncData} (d : DefK g 12 "every_so" ["drawing"] s12 fd) (tk : TOk (mkT g nm12 fs12 12) kws) : TOk (mkT g nm13 fs13 13) kws := by
  obtain ⟨h1, h2⟩ := hg
  have r := tok_ev (fu := 200) tk (ct := ct12) d ⟨rfl, h1.symm, rfl⟩ sc12 rfl ck12 (kwk12 d)
  rw [h2] at r
  exact r
theorem kwk13 {fd : FuncData} (d : DefK g 13 "less_so" ["lot", "some"] s13 fd) : ∀ q ∈ kws, q.1 = 13 → KwOk g.K fd ["lot", "some"] q.2.1 q.2.2.1 q.2.2.2 := by
  intro q hq he
  simp only [kws, List.mem_cons, List.not_mem_nil, or_false] at hq
  rcases hq with rfl
  · simp at he
theorem tk14 (hg : g.gn = gns ∧ g.gs = gss) {fd : FuncData} (d : DefK g 13 "less_so" ["lot", "some"] s13 fd) (tk : TOk (mkT g nm13 fs13 13) kws) : TOk (mkT g nm14 fs14 14) kws := by
  obtain ⟨h1, h2⟩ := hg
  have r := tok_ev (fu := 200) tk (ct := ct13) d ⟨rfl, h1.symm, rfl⟩ sc13 rfl ck13 (kwk13 d)
  rw [h2] at r
  exact r
theorem kwk14 {fd : FuncData} (d : DefK g 14 "children_so" ["drawing", "lot", "thing"] s14 fd) : ∀ q ∈ kws, q.1 = 14 → KwOk g.K fd ["drawing", "lot", "thing"] q.2.1 q.2.2.1 q.2.2.2 := by
  intro q hq he
  simp only [kws, List.mem_cons, List.not_mem_nil, or_false] at hq
  rcases hq with rfl
  · simp at he
theorem tk15 (hg : g.gn = gns ∧ g.gs = gss) {fd : FuncData} (d : DefK g 14 "children_so" ["drawing", "lot", "thing"] s14 fd) (tk : TOk (mkT g nm14 fs14 14) kws) : TOk (mkT g nm15 fs15 15) kws := by
  obtain ⟨h1, h2⟩ := hg
  have r := tok_ev (fu := 200) tk (ct := ct14) d ⟨rfl, h1.symm, rfl⟩ sc14 rfl ck14 (kwk14 d)
  rw [h2] at r
  exact r
theorem kwk15 {fd : FuncData} (d : DefK g 15 "leading_so" ["drawing", "lot", "goal"] s15 fd) : ∀ q ∈ kws, q.1 = 15 → KwOk g.K fd ["drawing", "lot", "goal"] q.2.1 q.2.2.1 q.2.2.2 := by
  intro q hq he
  simp only [kws, List.mem_cons, List.not_mem_nil, or_false] at hq
  rcases hq with rfl
  · simp at he
theorem tk16 (hg : g.gn = gns ∧ g.gs = gss) {fd : FuncData} (d : DefK g 15 "leading_so" ["drawing", "lot", "goal"] s15 fd) (tk : TOk (mkT g nm15 fs15 15) kws) : TOk (mkT g nm16 fs16 16) kws := by
  obtain ⟨h1, h2⟩ := hg
  have r := tok_ev (fu := 200) tk (ct := ct15) d ⟨rfl, h1.symm, rfl⟩ sc15 rfl ck15 (kwk15 d)
  rw [h2] at r
  exact r
theorem kwk16 {fd : FuncData} (d : DefK g 16 "leading" ["drawing", "lot", "goal"] s16 fd) : ∀ q ∈ kws, q.1 = 16 → KwOk g.K fd ["drawing", "lot", "goal"] q.2.1 q.2.2.1 q.2.2.2 := by
  intro q hq he
  simp only [kws, List.mem_cons, List.not_mem_nil, or_false] at hq
  rcases hq with rfl
  · simp at he
theorem tk17 (hg : g.gn = gns ∧ g.gs = gss) {fd : FuncData} (d : DefK g 16 "leading" ["drawing", "lot", "goal"] s16 fd) (tk : TOk (mkT g nm16 fs16 16) kws) : TOk (mkT g nm17 fs17 17) kws := by
  obtain ⟨h1, h2⟩ := hg
  have r := tok_ev (fu := 200) tk (ct := ct16) d ⟨rfl, h1.symm, rfl⟩ sc16 rfl ck16 (kwk16 d)
  rw [h2] at r
  exact r
theorem kwk17 {fd : FuncData} (d : DefK g 17 "goal_of" ["drawing", "shut", "ends"] s17 fd) : ∀ q ∈ kws, q.1 = 17 → KwOk g.K fd ["drawing", "shut", "ends"] q.2.1 q.2.2.1 q.2.2.2 := by
  intro q hq he
  simp only [kws, List.mem_cons, List.not_mem_nil, or_false] at hq
  rcases hq with rfl
  · refine ⟨rfl, fun s us _ hl => ?_⟩
    obtain ⟨⟨oc, od, kV, doc, pm, an, cdv, ct, osl, rfl, look, code⟩, kp⟩ := d.fn
    match us, hl with
    | [_, _, _], _ => exact .of_eq rfl
theorem tk18 (hg : g.gn = gns ∧ g.gs = gss) {fd : FuncData} (d : DefK g 17 "goal_of" ["drawing", "shut", "ends"] s17 fd) (tk : TOk (mkT g nm17 fs17 17) kws) : TOk (mkT g nm18 fs18 18) kws := by
  obtain ⟨h1, h2⟩ := hg
  have r := tok_ev (fu := 200) tk (ct := ct17) d ⟨rfl, h1.symm, rfl⟩ sc17 rfl ck17 (kwk17 d)
  rw [h2] at r
  exact r
theorem kwk18 {fd : FuncData} (d : DefK g 18 "_law_drawing" ["state", "low", "high"] s18 fd) : ∀ q ∈ kws, q.1 = 18 → KwOk g.K fd ["state", "low", "high"] q.2.1 q.2.2.1 q.2.2.2 := by
  intro q hq he
  simp only [kws, List.mem_cons, List.not_mem_nil, or_false] at hq
  rcases hq with rfl
  · simp at he
theorem tk19 (hg : g.gn = gns ∧ g.gs = gss) {fd : FuncData} (d : DefK g 18 "_law_drawing" ["state", "low", "high"] s18 fd) (tk : TOk (mkT g nm18 fs18 18) kws) : TOk (mkT g nm19 fs19 19) kws := by
  obtain ⟨h1, h2⟩ := hg
  have r := tok_ev (fu := 200) tk (ct := ct18) d ⟨rfl, h1.symm, rfl⟩ sc18 rfl ck18 (kwk18 d)
  rw [h2] at r
  exact r
theorem kwk19 {fd : FuncData} (d : DefK g 19 "_law_comes" ["arrows_so", "lot_so", "spot", "targets"] s19 fd) : ∀ q ∈ kws, q.1 = 19 → KwOk g.K fd ["arrows_so", "lot_so", "spot", "targets"] q.2.1 q.2.2.1 q.2.2.2 := by
  intro q hq he
  simp only [kws, List.mem_cons, List.not_mem_nil, or_false] at hq
  rcases hq with rfl
  · simp at he
theorem tk20 (hg : g.gn = gns ∧ g.gs = gss) {fd : FuncData} (d : DefK g 19 "_law_comes" ["arrows_so", "lot_so", "spot", "targets"] s19 fd) (tk : TOk (mkT g nm19 fs19 19) kws) : TOk (mkT g nm20 fs20 39) kws := by
  obtain ⟨h1, h2⟩ := hg
  have r := tok_rec (fu := 200) tk (ct := ct19) 20 d ⟨rfl, h1.symm, rfl⟩ sc19 rfl ck19 (kwk19 d)
  rw [h2] at r
  exact r
theorem kwk20 {fd : FuncData} (d : DefK g 20 "_law_due" ["draw_so", "closed", "targets"] s20 fd) : ∀ q ∈ kws, q.1 = 20 → KwOk g.K fd ["draw_so", "closed", "targets"] q.2.1 q.2.2.1 q.2.2.2 := by
  intro q hq he
  simp only [kws, List.mem_cons, List.not_mem_nil, or_false] at hq
  rcases hq with rfl
  · simp at he
theorem tk21 (hg : g.gn = gns ∧ g.gs = gss) {fd : FuncData} (d : DefK g 20 "_law_due" ["draw_so", "closed", "targets"] s20 fd) (tk : TOk (mkT g nm20 fs20 39) kws) : TOk (mkT g nm21 fs21 40) kws := by
  obtain ⟨h1, h2⟩ := hg
  have r := tok_ev (fu := 200) tk (ct := ct20) d ⟨rfl, h1.symm, rfl⟩ sc20 rfl ck20 (kwk20 d)
  rw [h2] at r
  exact r
theorem kwk21 {fd : FuncData} (d : DefK g 21 "_law_right" ["state"] s21 fd) : ∀ q ∈ kws, q.1 = 21 → KwOk g.K fd ["state"] q.2.1 q.2.2.1 q.2.2.2 := by
  intro q hq he
  simp only [kws, List.mem_cons, List.not_mem_nil, or_false] at hq
  rcases hq with rfl
  · simp at he
theorem tk22 (hg : g.gn = gns ∧ g.gs = gss) {fd : FuncData} (d : DefK g 21 "_law_right" ["state"] s21 fd) (tk : TOk (mkT g nm21 fs21 40) kws) : TOk (mkT g nm22 fs22 41) kws := by
  obtain ⟨h1, h2⟩ := hg
  have r := tok_ev (fu := 200) tk (ct := ct21) d ⟨rfl, h1.symm, rfl⟩ sc21 rfl ck21 (kwk21 d)
  rw [h2] at r
  exact r
end
theorem law_ps {g : Gnd} {names : List Str} {fs : Fns} {k : Nat} {fB fL : Addr} {fdB : FuncData} (mB : g.mg "_law_begin" = some (.ref fB)) (kB : PySem.W.keepIn g.K (.ref fB) = true) (bB : Binds g.K fdB ["script"] []) :
    FnG g.P g.w g.K g.mg g.base (k + 1) fB fdB ["script"] (spBegin g.K) → ∀ (cdv : Value) (A : Around) (outer : List PySem.Env) (s : Shared) (H : Hp) (E : XK) (t : TS), Room (k + 1) (A.deeper (envOfC "law" (defScope sL) s.heap.objs.size fL cdv)) → A.guards = some [] →
      XSt (mkT g names fs (k + 1)) ctL.N (defScope sL) (fun _ => true) E (cxOf (L2.CX g.P g.w) g.P g.w g.K g.mg g.base ctL.N "law" (defScope sL) fL cdv A outer s H E) →
      PSs (cxOf (L2.CX g.P g.w) g.P g.w g.K g.mg g.base ctL.N "law" (defScope sL) fL cdv A outer s H E) (defBody sL).tail t →
      PSs (cxOf (L2.CX g.P g.w) g.P g.w g.K g.mg g.base ctL.N "law" (defScope sL) fL cdv A outer s H E) (defBody sL) (tSeq (tAsg (tCG (spBegin g.K) E (tCons (tVar 0) tNil)) (gName 1)) t) := by
  intro GB cdv A outer s H E t room gd xs ht
  exact pss_cons (ps_set (i := 1) scL.nd rfl (.inl rfl) (pe_cG GB room gd rfl mB kB bB xs.xo.pas (pa_cons (pv 0) pa_nil) (by decide) rfl rfl)) ht
section
theorem all_mk {l : PySem.W.OpenLaw} {w : World} {K : Frag} {h : Heap} {mg : Str → Option Value} {fa : Addr} (X : K.In h) (G : h.Ns mainGlobals mg) (hfa : mg "law" = some (.ref fa))
    {f0 f1 f2 f3 f4 f5 f6 f7 f8 f9 f10 f11 f12 f13 f14 f15 f16 f17 f18 f19 f20 f21 fB fL : Addr}
    (a0 : DefAt K "_law_mixed" s0 f0)
    (a1 : DefAt K "_law_draw" s1 f1)
    (a2 : DefAt K "_law_like" s2 f2)
    (a3 : DefAt K "is_from" s3 f3)
    (a4 : DefAt K "is_set" s4 f4)
    (a5 : DefAt K "is_arrow" s5 f5)
    (a6 : DefAt K "is_cause" s6 f6)
    (a7 : DefAt K "check_items" s7 f7)
    (a8 : DefAt K "check_drawing" s8 f8)
    (a9 : DefAt K "check_lot" s9 f9)
    (a10 : DefAt K "is_within" s10 f10)
    (a11 : DefAt K "check_within" s11 f11)
    (a12 : DefAt K "every_so" s12 f12)
    (a13 : DefAt K "less_so" s13 f13)
    (a14 : DefAt K "children_so" s14 f14)
    (a15 : DefAt K "leading_so" s15 f15)
    (a16 : DefAt K "leading" s16 f16)
    (a17 : DefAt K "goal_of" s17 f17)
    (a18 : DefAt K "_law_drawing" s18 f18)
    (a19 : DefAt K "_law_comes" s19 f19)
    (a20 : DefAt K "_law_due" s20 f20)
    (a21 : DefAt K "_law_right" s21 f21)
    (aB : DefAt K "_law_begin" sB fB) (aL : DefAt K "law" sL fL)
    {t0 : Tok} (g0 : PySem.W.nsIn K mainGlobals "MOST_THINGS" = some (some (.int 10 t0)))
    {t1 : Tok} (g1 : PySem.W.nsIn K mainGlobals "MOST_CAUSES" = some (some (.int 20 t1)))
    (zz : ∀ x ∈ bnames, PySem.W.nsIn K mainGlobals x = some none) :
    ∃ fd : FuncData, (∀ (s : Shared) (v : Value), BindsTo s fd ⟨[v], []⟩ [("script", v)]) ∧ ∀ base : Heap, K.In base → base.Ns mainGlobals mg → FnG l.prog w K mg base 43 fa fd ["script"] (spLaw K fs22 gss 200 5 bL) := by
  obtain ⟨fd0, e0, m0⟩ := a0.fn
  obtain ⟨fd1, e1, m1⟩ := a1.fn
  obtain ⟨fd2, e2, m2⟩ := a2.fn
  obtain ⟨fd3, e3, m3⟩ := a3.fn
  obtain ⟨fd4, e4, m4⟩ := a4.fn
  obtain ⟨fd5, e5, m5⟩ := a5.fn
  obtain ⟨fd6, e6, m6⟩ := a6.fn
  obtain ⟨fd7, e7, m7⟩ := a7.fn
  obtain ⟨fd8, e8, m8⟩ := a8.fn
  obtain ⟨fd9, e9, m9⟩ := a9.fn
  obtain ⟨fd10, e10, m10⟩ := a10.fn
  obtain ⟨fd11, e11, m11⟩ := a11.fn
  obtain ⟨fd12, e12, m12⟩ := a12.fn
  obtain ⟨fd13, e13, m13⟩ := a13.fn
  obtain ⟨fd14, e14, m14⟩ := a14.fn
  obtain ⟨fd15, e15, m15⟩ := a15.fn
  obtain ⟨fd16, e16, m16⟩ := a16.fn
  obtain ⟨fd17, e17, m17⟩ := a17.fn
  obtain ⟨fd18, e18, m18⟩ := a18.fn
  obtain ⟨fd19, e19, m19⟩ := a19.fn
  obtain ⟨fd20, e20, m20⟩ := a20.fn
  obtain ⟨fd21, e21, m21⟩ := a21.fn
  obtain ⟨fdB, eB, mB⟩ := aB.fn
  obtain ⟨fdL, eL, mL⟩ := aL.fn
  have eqL := hfa.symm.trans (PySem.W.mg_of X G mL)
  cases eqL
  refine ⟨fdL, fun s v => ?_, fun base KB GB => ?_⟩
  · obtain ⟨⟨oc, od, kV, doc, pm, an, cdv, ct, osl, rfl, look, code⟩, kp⟩ := eL
    exact .of_eq rfl
  · obtain ⟨g, hg⟩ : ∃ g : Gnd, g = ⟨l.prog, w, K, mg, base, fun i => [f0, f1, f2, f3, f4, f5, f6, f7, f8, f9, f10, f11, f12, f13, f14, f15, f16, f17, f18, f19, f20, f21].getD i 0, fun _ => 0, gss, gns⟩ := ⟨_, rfl⟩
    have d0 : DefK g 0 "_law_mixed" ["cell", "k"] s0 fd0 := by rw [hg]; exact ⟨e0, PySem.W.mg_of X G m0, e0.binds fun _ _ _ _ _ _ us hl => match us, hl with | [_, _], _ => rfl⟩
    have d1 : DefK g 1 "_law_draw" ["state", "limit"] s1 fd1 := by rw [hg]; exact ⟨e1, PySem.W.mg_of X G m1, e1.binds fun _ _ _ _ _ _ us hl => match us, hl with | [_, _], _ => rfl⟩
    have d2 : DefK g 2 "_law_like" ["got", "due"] s2 fd2 := by rw [hg]; exact ⟨e2, PySem.W.mg_of X G m2, e2.binds fun _ _ _ _ _ _ us hl => match us, hl with | [_, _], _ => rfl⟩
    have d3 : DefK g 3 "is_from" ["value", "low", "high"] s3 fd3 := by rw [hg]; exact ⟨e3, PySem.W.mg_of X G m3, e3.binds fun _ _ _ _ _ _ us hl => match us, hl with | [_, _, _], _ => rfl⟩
    have d4 : DefK g 4 "is_set" ["value", "most"] s4 fd4 := by rw [hg]; exact ⟨e4, PySem.W.mg_of X G m4, e4.binds fun _ _ _ _ _ _ us hl => match us, hl with | [_, _], _ => rfl⟩
    have d5 : DefK g 5 "is_arrow" ["count", "value"] s5 fd5 := by rw [hg]; exact ⟨e5, PySem.W.mg_of X G m5, e5.binds fun _ _ _ _ _ _ us hl => match us, hl with | [_, _], _ => rfl⟩
    have d6 : DefK g 6 "is_cause" ["count", "value"] s6 fd6 := by rw [hg]; exact ⟨e6, PySem.W.mg_of X G m6, e6.binds fun _ _ _ _ _ _ us hl => match us, hl with | [_, _], _ => rfl⟩
    have d7 : DefK g 7 "check_items" ["count", "value", "place", "judge"] s7 fd7 := by rw [hg]; exact ⟨e7, PySem.W.mg_of X G m7, e7.binds fun _ _ _ _ _ _ us hl => match us, hl with | [_, _, _, _], _ => rfl⟩
    have d8 : DefK g 8 "check_drawing" ["value"] s8 fd8 := by rw [hg]; exact ⟨e8, PySem.W.mg_of X G m8, e8.binds fun _ _ _ _ _ _ us hl => match us, hl with | [_], _ => rfl⟩
    have d9 : DefK g 9 "check_lot" ["drawing", "value"] s9 fd9 := by rw [hg]; exact ⟨e9, PySem.W.mg_of X G m9, e9.binds fun _ _ _ _ _ _ us hl => match us, hl with | [_, _], _ => rfl⟩
    have d10 : DefK g 10 "is_within" ["lot", "some"] s10 fd10 := by rw [hg]; exact ⟨e10, PySem.W.mg_of X G m10, e10.binds fun _ _ _ _ _ _ us hl => match us, hl with | [_, _], _ => rfl⟩
    have d11 : DefK g 11 "check_within" ["drawing", "lot", "value"] s11 fd11 := by rw [hg]; exact ⟨e11, PySem.W.mg_of X G m11, e11.binds fun _ _ _ _ _ _ us hl => match us, hl with | [_, _, _], _ => rfl⟩
    have d12 : DefK g 12 "every_so" ["drawing"] s12 fd12 := by rw [hg]; exact ⟨e12, PySem.W.mg_of X G m12, e12.binds fun _ _ _ _ _ _ us hl => match us, hl with | [_], _ => rfl⟩
    have d13 : DefK g 13 "less_so" ["lot", "some"] s13 fd13 := by rw [hg]; exact ⟨e13, PySem.W.mg_of X G m13, e13.binds fun _ _ _ _ _ _ us hl => match us, hl with | [_, _], _ => rfl⟩
    have d14 : DefK g 14 "children_so" ["drawing", "lot", "thing"] s14 fd14 := by rw [hg]; exact ⟨e14, PySem.W.mg_of X G m14, e14.binds fun _ _ _ _ _ _ us hl => match us, hl with | [_, _, _], _ => rfl⟩
    have d15 : DefK g 15 "leading_so" ["drawing", "lot", "goal"] s15 fd15 := by rw [hg]; exact ⟨e15, PySem.W.mg_of X G m15, e15.binds fun _ _ _ _ _ _ us hl => match us, hl with | [_, _, _], _ => rfl⟩
    have d16 : DefK g 16 "leading" ["drawing", "lot", "goal"] s16 fd16 := by rw [hg]; exact ⟨e16, PySem.W.mg_of X G m16, e16.binds fun _ _ _ _ _ _ us hl => match us, hl with | [_, _, _], _ => rfl⟩
    have d17 : DefK g 17 "goal_of" ["drawing", "shut", "ends"] s17 fd17 := by rw [hg]; exact ⟨e17, PySem.W.mg_of X G m17, e17.binds fun _ _ _ _ _ _ us hl => match us, hl with | [_, _, _], _ => rfl⟩
    have d18 : DefK g 18 "_law_drawing" ["state", "low", "high"] s18 fd18 := by rw [hg]; exact ⟨e18, PySem.W.mg_of X G m18, e18.binds fun _ _ _ _ _ _ us hl => match us, hl with | [_, _, _], _ => rfl⟩
    have d19 : DefK g 19 "_law_comes" ["arrows_so", "lot_so", "spot", "targets"] s19 fd19 := by rw [hg]; exact ⟨e19, PySem.W.mg_of X G m19, e19.binds fun _ _ _ _ _ _ us hl => match us, hl with | [_, _, _, _], _ => rfl⟩
    have d20 : DefK g 20 "_law_due" ["draw_so", "closed", "targets"] s20 fd20 := by rw [hg]; exact ⟨e20, PySem.W.mg_of X G m20, e20.binds fun _ _ _ _ _ _ us hl => match us, hl with | [_, _, _], _ => rfl⟩
    have d21 : DefK g 21 "_law_right" ["state"] s21 fd21 := by rw [hg]; exact ⟨e21, PySem.W.mg_of X G m21, e21.binds fun _ _ _ _ _ _ us hl => match us, hl with | [_], _ => rfl⟩
    have hh : g.gn = gns ∧ g.gs = gss := by rw [hg]; exact ⟨rfl, rfl⟩
    have t0 := tk0 hh (by
      rw [hg]
      intro j x hj
      match j, hj with
      | 0, hj => cases hj; exact ⟨_, _, .int 10, rfl, PySem.W.mg_of X G g0, ⟨_, rfl⟩, fun _ _ => .d (.int _)⟩
      | 1, hj => cases hj; exact ⟨_, _, .int 20, rfl, PySem.W.mg_of X G g1, ⟨_, rfl⟩, fun _ _ => .d (.int _)⟩
      | j + 2, hj => simp [gns] at hj) (by rw [hg]; exact fun x hx => PySem.W.mg_none_of X G (zz x hx))
    have t1 := tk1 hh d0 t0
    have t2 := tk2 hh d1 t1
    have t3 := tk3 hh d2 t2
    have t4 := tk4 hh d3 t3
    have t5 := tk5 hh d4 t4
    have t6 := tk6 hh d5 t5
    have t7 := tk7 hh d6 t6
    have t8 := tk8 hh d7 t7
    have t9 := tk9 hh d8 t8
    have t10 := tk10 hh d9 t9
    have t11 := tk11 hh d10 t10
    have t12 := tk12 hh d11 t11
    have t13 := tk13 hh d12 t12
    have t14 := tk14 hh d13 t13
    have t15 := tk15 hh d14 t14
    have t16 := tk16 hh d15 t15
    have t17 := tk17 hh d16 t16
    have t18 := tk18 hh d17 t17
    have t19 := tk19 hh d18 t18
    have t20 := tk20 hh d19 t19
    have t21 := tk21 hh d20 t20
    have t22 := tk22 hh d21 t21
    have mB2 : g.mg "_law_begin" = some (.ref fB) := by rw [hg]; exact PySem.W.mg_of X G mB
    have eB2 : L2.Fun g.K "_law_begin" "_law_begin" sB fB fdB := by rw [hg]; exact eB
    have eL2 : L2.Fun g.K "law" "law" sL fa fdL := by rw [hg]; exact eL
    have r := law_fnG (fu := 200) (ct := ctL) t22 eB2 scB rfl (fun cdv A outer s H E room gd => begin_ps t22 room gd) eL2 scL (by decide) ⟨rfl, hh.1.symm, rfl⟩ ckL (law_ps mB2 eB2.kp (eB2.binds fun _ _ _ _ _ _ us hl => match us, hl with | [_], _ => rfl))
    rw [hg] at r
    exact r
end
end DK03

set_option Elab.async false
set_option linter.all false
set_option autoImplicit false
set_option maxRecDepth 100000
set_option maxHeartbeats 4000000
/-! k03: the law in plain Lean. -/
namespace DS
namespace PDK03
open PySem PySem.Spec PySem.SeqAt PyProof.Rows L2 DK03
theorem isFrom (x lo hi : Int) : F3 [.i x, .i lo, .i hi] = .ret (.b (decide (lo ≤ x) && decide (x ≤ hi))) := is_from_int x lo hi
theorem is4 : IsFrom fs4 3 := isFrom
theorem is5 : IsFrom fs5 3 := isFrom
theorem is8 : IsFrom fs8 3 := isFrom
theorem set_ok {m : Int} {xs : List Int} (h : SetOk m xs) : F4 [tI xs, .i m] = .ret (.b true) := is_set_ok is4 h
theorem dr_ok {n : Int} {ar : List (Int × Int)} (h0 : 1 ≤ n) (h1 : n ≤ 10) (ha : ArOk n ar) : F8 [drW n ar []] = .ret (drW n ar []) := by
  refine check_drawing_ok (fs := fs8) (gs := gss) is8 rfl rfl h0 h1 (by simp) ?_ ?_
  · refine check_items_ok (fs := fs7) (gs := gss) (fu := 200) (j := 5) (by decide) (fun d hd => ?_) (ar_ascend ha)
    obtain ⟨p, hp, rfl⟩ := List.mem_map.mp hd
    exact is_arrow_ok (fs := fs5) (gs := gss) (fu := 200) is5 (ha.ok p hp)
  · exact check_items_ok (fs := fs7) (gs := gss) (fu := 200) (j := 6) (by decide) (fun d hd => by simp at hd) (fun i d e h => by simp at h)
theorem lot_ok {n : Int} {ar : List (Int × Int)} {xs : List Int} (h : SetOk (n - 1) xs) : F9 [drW n ar [], tI xs] = .ret (tI xs) := check_lot_ok (fs := fs9) (gs := gss) (set_ok h)
theorem within_ok {n : Int} {ar : List (Int × Int)} {lot xs : List Int} (h : SetOk (n - 1) xs) (hs : ∀ x ∈ xs, x ∈ lot) : F11 [drW n ar [], tI lot, tI xs] = .ret (tI xs) :=
  check_within_ok (fs := fs11) (gs := gss) (lot_ok h) (is_within_ok (fs := fs10) (gs := gss) (fu := 200) h.few hs)
theorem lead_so {n : Int} {ar : List (Int × Int)} {lot goal : List Int} (ha : ArOk n ar) (hn : lot.Nodup) (hl : lot.length < 64) : F15 [drW n ar [], tI lot, tI goal] = .ret (tI (leadL ar lot goal)) :=
  leading_so_ok (fs := fs15) (gs := gss) (fu := 200) hn hl ha.few fun x => children_so_ok (fs := fs14) (gs := gss) (fu := 200) ha.few
theorem asc_nodup {xs : List Int} (h : xs.Pairwise (· < ·)) : xs.Nodup := h.imp fun z => by omega
theorem lead_ok {n : Int} {ar : List (Int × Int)} {lot goal : List Int} (h0 : 1 ≤ n) (h1 : n ≤ 10) (ha : ArOk n ar) (hl : SetOk (n - 1) lot) (h64 : lot.length < 64) (hg : SetOk (n - 1) goal) (hs : ∀ x ∈ goal, x ∈ lot) :
    F16 [drW n ar [], tI lot, tI goal] = .ret (tI (leadL ar lot goal)) :=
  leading_ok (fs := fs16) (gs := gss) (fu := 200) (dr_ok h0 h1 ha) (lot_ok hl) (within_ok hg hs) (lead_so ha (asc_nodup hl.asc) h64)
abbrev freeOf (n : Int) (shut : List Int) : List Int := (upto n).filter fun x => decide (x ∉ shut)
theorem upto_mem {n x : Int} : x ∈ upto n ↔ 0 ≤ x ∧ x < n := by
  unfold upto
  rw [List.mem_map]
  constructor
  · rintro ⟨k, hk, rfl⟩
    have := List.mem_range.mp hk
    omega
  · rintro ⟨h0, h1⟩
    exact ⟨x.toNat, List.mem_range.mpr (by omega), by omega⟩
theorem upto_asc (n : Int) : (upto n).Pairwise (· < ·) := by
  unfold upto
  rw [List.pairwise_map]
  exact List.pairwise_lt_range.imp fun h => by omega
theorem upto_len {n : Int} (h : n ≤ 10) : (upto n).length ≤ 10 := by unfold upto; rw [List.length_map, List.length_range]; omega
theorem filter_set {n : Int} (h : n ≤ 10) (p : Int → Bool) : SetOk (n - 1) ((upto n).filter p) where
  rng := fun x hx => by have := upto_mem.mp (List.mem_filter.mp hx).1; omega
  asc := (upto_asc n).sublist List.filter_sublist
  few := by have := List.length_filter_le p (upto n); have := upto_len h; have : cap = 100000 := rfl; omega
theorem goal_ok {n : Int} {ar : List (Int × Int)} {shut goal : List Int} (h0 : 1 ≤ n) (h1 : n ≤ 10) (ha : ArOk n ar) (hs : SetOk (n - 1) shut) (hg : SetOk (n - 1) goal) (hd : ∀ x ∈ goal, x ∉ shut) :
    F17 [drW n ar [], tI shut, tI goal] = .ret (tI (leadL ar (freeOf n shut) goal)) := by
  have hf := filter_set h1 fun x => decide (x ∉ shut)
  have hl : (freeOf n shut).length ≤ 10 := Nat.le_trans (List.length_filter_le _ _) (upto_len h1)
  have hc : cap = 100000 := rfl
  refine goal_of_ok (fs := fs17) (gs := gss) (fu := 200) (every := upto n) (free := freeOf n shut) (dr_ok h0 h1 ha) (lot_ok hs) (every_so_ok (fs := fs12) (gs := gss) (fu := 200) (by omega) (by omega)) (less_so_ok (fs := fs13) (gs := gss) (fu := 200) (by have := upto_len h1; omega)) (within_ok hg fun x hx => ?_) (lead_so ha (asc_nodup hf.asc) (by omega))
  have := hg.rng x hx
  exact List.mem_filter.mpr ⟨upto_mem.mpr (by omega), by simpa using hd x hx⟩
/-! ### the law's own way -/
def comesB (ar : List (Int × Int)) (lot goal : List Int) : Nat → Int → Bool
  | 0, _ => false
  | m + 1, x => decide (x ∈ goal) || ar.any fun p => decide (p.1 = x) && (decide (p.2 ∈ lot) && comesB ar lot goal m p.2)
theorem comesB_iff {ar : List (Int × Int)} {lot goal : List Int} {n : Int} (ha : ArOk n ar) : ∀ (m : Nat) (x : Int), n - x < m → 0 < m → (comesB ar lot goal m x = true ↔ Comes ar lot goal x)
  | 0, x, h, h0 => by omega
  | m + 1, x, h, _ => by
    unfold comesB
    simp only [Bool.or_eq_true, decide_eq_true_eq, List.any_eq_true, Bool.and_eq_true]
    constructor
    · rintro (h1 | ⟨p, hp, rfl, h2, h3⟩)
      · exact .here h1
      · have hp2 := ha.ok p hp
        exact .step hp h2 ((comesB_iff ha m p.2 (by have := hp2.2.1; omega) (by have := hp2.2.1; have := hp2.2.2; omega)).mp h3)
    · intro z
      cases z with
      | here h1 => exact .inl h1
      | step h1 h2 h3 =>
        have := ha.ok _ h1
        exact .inr ⟨_, h1, rfl, h2, (comesB_iff ha m _ (by have := this.2.1; dsimp only at this; omega) (by have h8 := this.2.1; have h9 := this.2.2; dsimp only at h8 h9; omega)).mpr h3⟩
abbrev lI (xs : List Int) : W := .d (.list (xs.map PyData.int))
theorem comes_ok {ar : List (Int × Int)} {lot goal : List Int} {n : Int} (ha : ArOk n ar) : ∀ (m : Nat) (x : Int), n - x < m → 0 < m → evR fs19 gss 200 6 4 b19 m [.d (.tuple (ar.map prD)), lI lot, .i x, tI goal] = .ret (.b (comesB ar lot goal m x))
  | 0, x, h, h0 => by omega
  | m + 1, x, h, _ => by
    show evD (fs19 ++ [evR fs19 gss 200 6 4 b19 m]) gss 200 6 4 b19 _ = _
    have hat : ∀ ws, applyF (fs19 ++ [evR fs19 gss 200 6 4 b19 m]) 19 ws = evR fs19 gss 200 6 4 b19 m ws := fun ws => rfl
    generalize hfs : fs19 ++ [evR fs19 gss 200 6 4 b19 m] = fs at hat
    rw [d_run 6 4 _ _ rfl]
    unfold comesB
    by_cases hg : x ∈ goal
    · simp [b19, v_v, v_non, v_bl, v_int, v_str, v_gl, v_fn, v_tup, v_lst, v_dnew, v_bin, v_neg, v_cmp, v_chain, v_isN, v_notN, v_bop, v_b1, v_b2, v_not, v_ite, v_ix, v_sl, v_call, v_callk, v_callv, v_bi, v_isi, v_comp, l_nil, l_cons, o_nil, o_cons, c_nil', c_cons', i_of', i_rng1', i_rng2', i_enum', i_zip', i_rev', s_nil', s_cons', t_asg, t_par, t_ret, t_retN, t_ite, t_for, t_ex, t_put, t_app, t_ext, t_brk, t_cnt, cmpK, iteK, notK, bopK, tupK, lstK, iteS, asgK, parK, escE, escL, escI, dem, dem1, getN, binW, addW, int2, b1W, lenW, tupleW, listW, intW, isiW, ixW, cmpW, wBool, wInt, isNone, asgE, asgT, asgTs, Tg.is, TgL.is, wipeE, fresh, isBox, datas, W.data?, opt_some, opt_none, M.bind_ret, M.bind_stuck, M.nox_ret, itOf, itEnum, itZip, itRev, ownAt, ownL, W.i, W.b, List.map_cons, List.map_nil, List.set, List.getElem?_cons_zero, List.getElem?_cons_succ, List.length_cons, List.length_nil, List.replicate, List.append_nil, List.nil_append, List.cons_append, ite_true, ite_false, Bool.false_eq_true, reduceCtorEq, if_true, if_false, seqK_nx, seqK_rt, seqK_bk, seqK_ct, finK_rt, finK_nx, tI, hg]
    · obtain ⟨r', h1, _⟩ := forR_find (fs := fs) (gs := gss) (fu := 200) (tg := .t (.cons (.n 4) (.cons (.n 5) .nil)))
        (body := (.cons (.ite (.bop true (.cons (.cmp .eq (.v 4) (.v 2)) (.cons (.cmp .isin (.v 5) (.v 1)) (.cons (.call 19 (.cons (.v 0) (.cons (.v 1) (.cons (.v 5) (.cons (.v 3) .nil))))) .nil)))) (.cons (.ret (.bl true)) .nil) .nil) .nil))
        (W.d ∘ prD) (fun p => decide (p.1 = x) && (decide (p.2 ∈ lot) && comesB ar lot goal m p.2)) (W.b true)
        (fun r => ∃ c4 c5, r = [.sh (.d (.tuple (ar.map prD))), .sh (lI lot), .sh (.i x), .sh (tI goal), c4, c5]) (xs := ar) (r := [.sh (.d (.tuple (ar.map prD))), .sh (lI lot), .sh (.i x), .sh (tI goal), .no, .no]) ⟨_, _, rfl⟩ (fun p hp r ⟨c4, c5, hr⟩ => by
          subst hr
          refine ⟨[.sh (.d (.tuple (ar.map prD))), .sh (lI lot), .sh (.i x), .sh (tI goal), .sh (.i p.1), .sh (.i p.2)], [.sh (.d (.tuple (ar.map prD))), .sh (lI lot), .sh (.i x), .sh (tI goal), .sh (.i p.1), .sh (.i p.2)], rfl, ?_, _, _, rfl⟩
          by_cases e1 : p.1 = x
          · by_cases e2 : p.2 ∈ lot
            · have hp2 := ha.ok p hp
              have e3 : applyF fs 19 [W.d (.tuple (ar.map prD)), W.d (.list (lot.map PyData.int)), W.d (.int p.2), W.d (.tuple (goal.map PyData.int))] = _ := (hat _).trans (comes_ok ha m p.2 (by have := hp2.2.1; omega) (by have := hp2.2.1; have := hp2.2.2; omega))
              cases hb : comesB ar lot goal m p.2 <;> rw [hb] at e3 <;> simp [v_v, v_non, v_bl, v_int, v_str, v_gl, v_fn, v_tup, v_lst, v_dnew, v_bin, v_neg, v_cmp, v_chain, v_isN, v_notN, v_bop, v_b1, v_b2, v_not, v_ite, v_ix, v_sl, v_call, v_callk, v_callv, v_bi, v_isi, v_comp, l_nil, l_cons, o_nil, o_cons, c_nil', c_cons', i_of', i_rng1', i_rng2', i_enum', i_zip', i_rev', s_nil', s_cons', t_asg, t_par, t_ret, t_retN, t_ite, t_for, t_ex, t_put, t_app, t_ext, t_brk, t_cnt, cmpK, iteK, notK, bopK, tupK, lstK, iteS, asgK, parK, escE, escL, escI, dem, dem1, getN, binW, addW, int2, b1W, lenW, tupleW, listW, intW, isiW, ixW, cmpW, wBool, wInt, isNone, asgE, asgT, asgTs, Tg.is, TgL.is, wipeE, fresh, isBox, datas, W.data?, opt_some, opt_none, M.bind_ret, M.bind_stuck, M.nox_ret, itOf, itEnum, itZip, itRev, ownAt, ownL, W.i, W.b, List.map_cons, List.map_nil, List.set, List.getElem?_cons_zero, List.getElem?_cons_succ, List.length_cons, List.length_nil, List.replicate, List.append_nil, List.nil_append, List.cons_append, ite_true, ite_false, Bool.false_eq_true, reduceCtorEq, if_true, if_false, seqK_nx, seqK_rt, seqK_bk, seqK_ct, finK_rt, finK_nx, lI, tI, e1, e2, e3]
            · simp [v_v, v_non, v_bl, v_int, v_str, v_gl, v_fn, v_tup, v_lst, v_dnew, v_bin, v_neg, v_cmp, v_chain, v_isN, v_notN, v_bop, v_b1, v_b2, v_not, v_ite, v_ix, v_sl, v_call, v_callk, v_callv, v_bi, v_isi, v_comp, l_nil, l_cons, o_nil, o_cons, c_nil', c_cons', i_of', i_rng1', i_rng2', i_enum', i_zip', i_rev', s_nil', s_cons', t_asg, t_par, t_ret, t_retN, t_ite, t_for, t_ex, t_put, t_app, t_ext, t_brk, t_cnt, cmpK, iteK, notK, bopK, tupK, lstK, iteS, asgK, parK, escE, escL, escI, dem, dem1, getN, binW, addW, int2, b1W, lenW, tupleW, listW, intW, isiW, ixW, cmpW, wBool, wInt, isNone, asgE, asgT, asgTs, Tg.is, TgL.is, wipeE, fresh, isBox, datas, W.data?, opt_some, opt_none, M.bind_ret, M.bind_stuck, M.nox_ret, itOf, itEnum, itZip, itRev, ownAt, ownL, W.i, W.b, List.map_cons, List.map_nil, List.set, List.getElem?_cons_zero, List.getElem?_cons_succ, List.length_cons, List.length_nil, List.replicate, List.append_nil, List.nil_append, List.cons_append, ite_true, ite_false, Bool.false_eq_true, reduceCtorEq, if_true, if_false, seqK_nx, seqK_rt, seqK_bk, seqK_ct, finK_rt, finK_nx, lI, tI, e1, e2]
          · simp [v_v, v_non, v_bl, v_int, v_str, v_gl, v_fn, v_tup, v_lst, v_dnew, v_bin, v_neg, v_cmp, v_chain, v_isN, v_notN, v_bop, v_b1, v_b2, v_not, v_ite, v_ix, v_sl, v_call, v_callk, v_callv, v_bi, v_isi, v_comp, l_nil, l_cons, o_nil, o_cons, c_nil', c_cons', i_of', i_rng1', i_rng2', i_enum', i_zip', i_rev', s_nil', s_cons', t_asg, t_par, t_ret, t_retN, t_ite, t_for, t_ex, t_put, t_app, t_ext, t_brk, t_cnt, cmpK, iteK, notK, bopK, tupK, lstK, iteS, asgK, parK, escE, escL, escI, dem, dem1, getN, binW, addW, int2, b1W, lenW, tupleW, listW, intW, isiW, ixW, cmpW, wBool, wInt, isNone, asgE, asgT, asgTs, Tg.is, TgL.is, wipeE, fresh, isBox, datas, W.data?, opt_some, opt_none, M.bind_ret, M.bind_stuck, M.nox_ret, itOf, itEnum, itZip, itRev, ownAt, ownL, W.i, W.b, List.map_cons, List.map_nil, List.set, List.getElem?_cons_zero, List.getElem?_cons_succ, List.length_cons, List.length_nil, List.replicate, List.append_nil, List.nil_append, List.cons_append, ite_true, ite_false, Bool.false_eq_true, reduceCtorEq, if_true, if_false, seqK_nx, seqK_rt, seqK_bk, seqK_ct, finK_rt, finK_nx, lI, tI, e1])
      simp [b19, v_v, v_non, v_bl, v_int, v_str, v_gl, v_fn, v_tup, v_lst, v_dnew, v_bin, v_neg, v_cmp, v_chain, v_isN, v_notN, v_bop, v_b1, v_b2, v_not, v_ite, v_ix, v_sl, v_call, v_callk, v_callv, v_bi, v_isi, v_comp, l_nil, l_cons, o_nil, o_cons, c_nil', c_cons', i_of', i_rng1', i_rng2', i_enum', i_zip', i_rev', s_nil', s_cons', t_asg, t_par, t_ret, t_retN, t_ite, t_for, t_ex, t_put, t_app, t_ext, t_brk, t_cnt, cmpK, iteK, notK, bopK, tupK, lstK, iteS, asgK, parK, escE, escL, escI, dem, dem1, getN, binW, addW, int2, b1W, lenW, tupleW, listW, intW, isiW, ixW, cmpW, wBool, wInt, isNone, asgE, asgT, asgTs, Tg.is, TgL.is, wipeE, fresh, isBox, datas, W.data?, opt_some, opt_none, M.bind_ret, M.bind_stuck, M.nox_ret, itOf, itEnum, itZip, itRev, ownAt, ownL, W.i, W.b, List.map_cons, List.map_nil, List.set, List.getElem?_cons_zero, List.getElem?_cons_succ, List.length_cons, List.length_nil, List.replicate, List.append_nil, List.nil_append, List.cons_append, ite_true, ite_false, Bool.false_eq_true, reduceCtorEq, if_true, if_false, seqK_nx, seqK_rt, seqK_bk, seqK_ct, finK_rt, finK_nx, tI, hg]
      simp [lI, tI] at h1
      rw [h1]
      generalize (ar.any fun p => decide (p.1 = x) && (decide (p.2 ∈ lot) && comesB ar lot goal m p.2)) = bb
      cases bb <;> simp [v_v, v_non, v_bl, v_int, v_str, v_gl, v_fn, v_tup, v_lst, v_dnew, v_bin, v_neg, v_cmp, v_chain, v_isN, v_notN, v_bop, v_b1, v_b2, v_not, v_ite, v_ix, v_sl, v_call, v_callk, v_callv, v_bi, v_isi, v_comp, l_nil, l_cons, o_nil, o_cons, c_nil', c_cons', i_of', i_rng1', i_rng2', i_enum', i_zip', i_rev', s_nil', s_cons', t_asg, t_par, t_ret, t_retN, t_ite, t_for, t_ex, t_put, t_app, t_ext, t_brk, t_cnt, cmpK, iteK, notK, bopK, tupK, lstK, iteS, asgK, parK, escE, escL, escI, dem, dem1, getN, binW, addW, int2, b1W, lenW, tupleW, listW, intW, isiW, ixW, cmpW, wBool, wInt, isNone, asgE, asgT, asgTs, Tg.is, TgL.is, wipeE, fresh, isBox, datas, W.data?, opt_some, opt_none, M.bind_ret, M.bind_stuck, M.nox_ret, itOf, itEnum, itZip, itRev, ownAt, ownL, W.i, W.b, List.map_cons, List.map_nil, List.set, List.getElem?_cons_zero, List.getElem?_cons_succ, List.length_cons, List.length_nil, List.replicate, List.append_nil, List.nil_append, List.cons_append, ite_true, ite_false, Bool.false_eq_true, reduceCtorEq, if_true, if_false, seqK_nx, seqK_rt, seqK_bk, seqK_ct, finK_rt, finK_nx]

end PDK03
end DS

set_option Elab.async false
set_option linter.all false
set_option autoImplicit false
set_option maxRecDepth 100000
set_option maxHeartbeats 4000000
/-! k03: the law in plain Lean. -/
namespace DS
namespace PDK03
open PySem PySem.Spec PySem.SeqAt PyProof.Rows L2 DK03
/-! ### a drawing is drawn -/
structure DrI (n : Int) (i : Nat) (r : Env) : Prop where
  ex : ∃ (ar : List (Int × Int)) (c5 : C), r = [C.sh W.tok, C.sh (W.d (PyData.int 1)), C.sh (W.d (PyData.int 10)), C.sh (W.d (PyData.int n)), C.ow (W.d (PyData.list (ar.map prD))), c5, C.no] ∧ (∀ p ∈ ar, ArrowOk n p ∧ p.1 < i) ∧ (ar.Pairwise fun p q => p.1 < q.1 ∨ (p.1 = q.1 ∧ p.2 < q.2)) ∧ ar.length ≤ 10 * i
structure IsDr (w : W) : Prop where
  ex : ∃ n ar, w = drW n ar [] ∧ 1 ≤ n ∧ n ≤ 10 ∧ ArOk n ar
theorem dr_turn {fs : Fns} {n : Int} (hat : ∀ ws, applyF fs 1 ws = drawF ws) (a : Int) (j : Nat) (ar : List (Int × Int)) :
    Ok 1 (stepC fs gss [C.sh W.tok, C.sh (W.d (PyData.int 1)), C.sh (W.d (PyData.int 10)), C.sh (W.d (PyData.int n)), C.ow (W.d (PyData.list (ar.map prD))), C.sh (W.d (PyData.int a)), C.no] (.n 6)
      (.cons (.cmp .eq (.call 1 (.cons (.v 0) (.cons (.int 2) .nil))) (.int 0)) .nil) (.tup (.cons (.v 5) (.cons (.v 6) .nil))) (W.d (PyData.int (a + 1 + j)))) (fun o => o = none ∨ o = some (prD (a, a + 1 + j))) := by
  simp [stepC, v_v, v_non, v_bl, v_int, v_str, v_gl, v_fn, v_tup, v_lst, v_dnew, v_bin, v_neg, v_cmp, v_chain, v_isN, v_notN, v_bop, v_b1, v_b2, v_not, v_ite, v_ix, v_sl, v_call, v_callk, v_callv, v_bi, v_isi, v_comp, l_nil, l_cons, o_nil, o_cons, c_nil', c_cons', i_of', i_rng1', i_rng2', i_enum', i_zip', i_rev', s_nil', s_cons', t_asg, t_par, t_ret, t_retN, t_ite, t_for, t_ex, t_put, t_app, t_ext, t_brk, t_cnt, cmpK, iteK, notK, bopK, tupK, lstK, iteS, asgK, parK, escE, escL, escI, dem, dem1, getN, binW, addW, int2, b1W, lenW, tupleW, listW, intW, isiW, ixW, cmpW, wBool, wInt, isNone, asgE, asgT, asgTs, Tg.is, TgL.is, wipeE, fresh, isBox, datas, W.data?, opt_some, opt_none, M.bind_ret, M.bind_stuck, M.nox_ret, itOf, itEnum, itZip, itRev, ownAt, ownL, W.i, W.b, List.map_cons, List.map_nil, List.set, List.getElem?_cons_zero, List.getElem?_cons_succ, List.length_cons, List.length_nil, List.replicate, List.append_nil, List.nil_append, List.cons_append, ite_true, ite_false, Bool.false_eq_true, reduceCtorEq, if_true, if_false, seqK_nx, seqK_rt, seqK_bk, seqK_ct, finK_rt, finK_nx]
  simp only [M.bind_assoc]
  rw [hat]
  refine (Ok.bind (b1 := 1) (b2 := 0) (Ok.draw (by omega) (by omega)) fun w hw => ?_).imp (by omega) (fun _ z => z)
  obtain ⟨k2, rfl, _, _⟩ := hw
  by_cases hk : k2 = 0
  · subst hk
    simp [v_v, v_non, v_bl, v_int, v_str, v_gl, v_fn, v_tup, v_lst, v_dnew, v_bin, v_neg, v_cmp, v_chain, v_isN, v_notN, v_bop, v_b1, v_b2, v_not, v_ite, v_ix, v_sl, v_call, v_callk, v_callv, v_bi, v_isi, v_comp, l_nil, l_cons, o_nil, o_cons, c_nil', c_cons', i_of', i_rng1', i_rng2', i_enum', i_zip', i_rev', s_nil', s_cons', t_asg, t_par, t_ret, t_retN, t_ite, t_for, t_ex, t_put, t_app, t_ext, t_brk, t_cnt, cmpK, iteK, notK, bopK, tupK, lstK, iteS, asgK, parK, escE, escL, escI, dem, dem1, getN, binW, addW, int2, b1W, lenW, tupleW, listW, intW, isiW, ixW, cmpW, wBool, wInt, isNone, asgE, asgT, asgTs, Tg.is, TgL.is, wipeE, fresh, isBox, datas, W.data?, opt_some, opt_none, M.bind_ret, M.bind_stuck, M.nox_ret, itOf, itEnum, itZip, itRev, ownAt, ownL, W.i, W.b, List.map_cons, List.map_nil, List.set, List.getElem?_cons_zero, List.getElem?_cons_succ, List.length_cons, List.length_nil, List.replicate, List.append_nil, List.nil_append, List.cons_append, ite_true, ite_false, Bool.false_eq_true, reduceCtorEq, if_true, if_false, seqK_nx, seqK_rt, seqK_bk, seqK_ct, finK_rt, finK_nx]
    exact Ok.ret (.inr rfl)
  · simp [v_v, v_non, v_bl, v_int, v_str, v_gl, v_fn, v_tup, v_lst, v_dnew, v_bin, v_neg, v_cmp, v_chain, v_isN, v_notN, v_bop, v_b1, v_b2, v_not, v_ite, v_ix, v_sl, v_call, v_callk, v_callv, v_bi, v_isi, v_comp, l_nil, l_cons, o_nil, o_cons, c_nil', c_cons', i_of', i_rng1', i_rng2', i_enum', i_zip', i_rev', s_nil', s_cons', t_asg, t_par, t_ret, t_retN, t_ite, t_for, t_ex, t_put, t_app, t_ext, t_brk, t_cnt, cmpK, iteK, notK, bopK, tupK, lstK, iteS, asgK, parK, escE, escL, escI, dem, dem1, getN, binW, addW, int2, b1W, lenW, tupleW, listW, intW, isiW, ixW, cmpW, wBool, wInt, isNone, asgE, asgT, asgTs, Tg.is, TgL.is, wipeE, fresh, isBox, datas, W.data?, opt_some, opt_none, M.bind_ret, M.bind_stuck, M.nox_ret, itOf, itEnum, itZip, itRev, ownAt, ownL, W.i, W.b, List.map_cons, List.map_nil, List.set, List.getElem?_cons_zero, List.getElem?_cons_succ, List.length_cons, List.length_nil, List.replicate, List.append_nil, List.nil_append, List.cons_append, ite_true, ite_false, Bool.false_eq_true, reduceCtorEq, if_true, if_false, seqK_nx, seqK_rt, seqK_bk, seqK_ct, finK_rt, finK_nx, hk]
    exact Ok.ret (.inl rfl)
theorem dr_step {fs : Fns} {n : Int} (hat : ∀ ws, applyF fs 1 ws = drawF ws) (hn0 : 1 ≤ n) (hn1 : n ≤ 10) (i : Nat) (w : W) (r : Env) (hw : ((List.range n.toNat).map fun (k : Nat) => W.d (PyData.int (k : Int)))[i]? = some w) (hI : DrI n i r) :
    ∃ r2, asgT (.n 5) w r = some r2 ∧ Ok 10 (evSL fs gss 200 (.cons (.asg (.n 4) (.bin .add (.v 4) (.comp (.n 6) (.rng2 (.bin .add (.v 5) (.int 1)) (.v 3)) (.cons (.cmp .eq (.call 1 (.cons (.v 0) (.cons (.int 2) .nil))) (.int 0)) .nil) (.tup (.cons (.v 5) (.cons (.v 6) .nil)))))) .nil) r2) (fun q => q.1 = .nx ∧ DrI n (i + 1) q.2) := by
  obtain ⟨ar, c5, hr, h1, h2, h3⟩ := hI
  subst hr
  rw [List.getElem?_map] at hw
  cases hi : (List.range n.toNat)[i]? with
  | none => rw [hi] at hw; cases hw
  | some x =>
    rw [hi] at hw
    cases hw
    have hlt := get_lt' hi
    rw [List.length_range] at hlt
    rw [List.getElem?_range hlt] at hi
    cases hi
    have hr := itRng_ok (a := (i : Int) + 1) (b := n) (by omega) (by omega) (by omega) (by omega)
    refine ⟨[C.sh W.tok, C.sh (W.d (PyData.int 1)), C.sh (W.d (PyData.int 10)), C.sh (W.d (PyData.int n)), C.ow (W.d (PyData.list (ar.map prD))), C.sh (W.d (PyData.int (i : Int))), C.no], rfl, ?_⟩
    obtain ⟨a, ha⟩ : ∃ a : Int, a = (i : Int) := ⟨_, rfl⟩
    rw [← ha] at hr ⊢
    generalize hPP : (fun q : Fl × Env => q.1 = .nx ∧ DrI n (i + 1) q.2) = PP
    simp [v_v, v_non, v_bl, v_int, v_str, v_gl, v_fn, v_tup, v_lst, v_dnew, v_bin, v_neg, v_cmp, v_chain, v_isN, v_notN, v_bop, v_b1, v_b2, v_not, v_ite, v_ix, v_sl, v_call, v_callk, v_callv, v_bi, v_isi, v_comp, l_nil, l_cons, o_nil, o_cons, c_nil', c_cons', i_of', i_rng1', i_rng2', i_enum', i_zip', i_rev', s_nil', s_cons', t_asg, t_par, t_ret, t_retN, t_ite, t_for, t_ex, t_put, t_app, t_ext, t_brk, t_cnt, cmpK, iteK, notK, bopK, tupK, lstK, iteS, asgK, parK, escE, escL, escI, dem, dem1, getN, binW, addW, int2, b1W, lenW, tupleW, listW, intW, isiW, ixW, cmpW, wBool, wInt, isNone, asgE, asgT, asgTs, Tg.is, TgL.is, wipeE, fresh, isBox, datas, W.data?, opt_some, opt_none, M.bind_ret, M.bind_stuck, M.nox_ret, itOf, itEnum, itZip, itRev, ownAt, ownL, W.i, W.b, List.map_cons, List.map_nil, List.set, List.getElem?_cons_zero, List.getElem?_cons_succ, List.length_cons, List.length_nil, List.replicate, List.append_nil, List.nil_append, List.cons_append, ite_true, ite_false, Bool.false_eq_true, reduceCtorEq, if_true, if_false, seqK_nx, seqK_rt, seqK_bk, seqK_ct, finK_rt, finK_nx, hr]
    simp only [M.bind_assoc]
    refine (Ok.bind (b1 := 1 * (List.range (n - (a + 1)).toNat).length) (b2 := 0) (compR_ok (fun (j : Nat) => W.d (PyData.int (a + 1 + j))) (fun j o => o = none ∨ o = some (prD (a, a + 1 + j))) 1 (by rw [List.length_range]; have : cap = 100000 := rfl; omega) (fun j _ => ?_)) fun w hw => ?_).imp (by rw [List.length_range]; omega) (fun _ z => z)
    · exact dr_turn hat a j ar
    · obtain ⟨os, ho, rfl⟩ := hw
      obtain ⟨zs, g1, g2⟩ := all2_sub (fun (j : Nat) => prD (a, a + 1 + j)) (fun _ _ z => z) ho
      rw [g2]
      have hzl := g1.length_le
      rw [List.length_range] at hzl
      have hfit : ar.length + zs.length ≤ cap := by have : cap = 100000 := rfl; omega
      have hq1 : ∀ p ∈ ar ++ zs.map (fun (j : Nat) => (a, a + 1 + (j : Int))), ArrowOk n p ∧ p.1 < ((i + 1 : Nat) : Int) := by
        intro p hp
        rcases List.mem_append.mp hp with hp | hp
        · exact ⟨(h1 p hp).1, by have := (h1 p hp).2; omega⟩
        · obtain ⟨j, hj, rfl⟩ := List.mem_map.mp hp
          have := List.mem_range.mp (g1.subset hj)
          exact ⟨⟨by dsimp only; omega, by dsimp only; omega, by dsimp only; omega⟩, by dsimp only; omega⟩
      have hq2 : (ar ++ zs.map (fun (j : Nat) => (a, a + 1 + (j : Int)))).Pairwise fun p q => p.1 < q.1 ∨ (p.1 = q.1 ∧ p.2 < q.2) := by
        refine List.pairwise_append.mpr ⟨h2, ?_, fun p hp q hq => ?_⟩
        · rw [List.pairwise_map]
          exact (List.pairwise_lt_range.sublist g1).imp fun h => .inr ⟨rfl, by dsimp only; omega⟩
        · obtain ⟨j, hj, rfl⟩ := List.mem_map.mp hq
          exact .inl (by have := (h1 p hp).2; dsimp only; omega)
      have hq3 : (ar ++ zs.map (fun (j : Nat) => (a, a + 1 + (j : Int)))).length ≤ 10 * (i + 1) := by
        rw [List.length_append, List.length_map]; omega
      refine Ok.of (a := (Fl.nx, [C.sh W.tok, C.sh (W.d (PyData.int 1)), C.sh (W.d (PyData.int 10)), C.sh (W.d (PyData.int n)), C.ow (W.d (PyData.list ((ar ++ zs.map (fun (j : Nat) => (a, a + 1 + (j : Int)))).map prD))), C.sh (W.d (PyData.int a)), C.no])) (by simp [v_v, v_non, v_bl, v_int, v_str, v_gl, v_fn, v_tup, v_lst, v_dnew, v_bin, v_neg, v_cmp, v_chain, v_isN, v_notN, v_bop, v_b1, v_b2, v_not, v_ite, v_ix, v_sl, v_call, v_callk, v_callv, v_bi, v_isi, v_comp, l_nil, l_cons, o_nil, o_cons, c_nil', c_cons', i_of', i_rng1', i_rng2', i_enum', i_zip', i_rev', s_nil', s_cons', t_asg, t_par, t_ret, t_retN, t_ite, t_for, t_ex, t_put, t_app, t_ext, t_brk, t_cnt, cmpK, iteK, notK, bopK, tupK, lstK, iteS, asgK, parK, escE, escL, escI, dem, dem1, getN, binW, addW, int2, b1W, lenW, tupleW, listW, intW, isiW, ixW, cmpW, wBool, wInt, isNone, asgE, asgT, asgTs, Tg.is, TgL.is, wipeE, fresh, isBox, datas, W.data?, opt_some, opt_none, M.bind_ret, M.bind_stuck, M.nox_ret, itOf, itEnum, itZip, itRev, ownAt, ownL, W.i, W.b, List.map_cons, List.map_nil, List.set, List.getElem?_cons_zero, List.getElem?_cons_succ, List.length_cons, List.length_nil, List.replicate, List.append_nil, List.nil_append, List.cons_append, ite_true, ite_false, Bool.false_eq_true, reduceCtorEq, if_true, if_false, seqK_nx, seqK_rt, seqK_bk, seqK_ct, finK_rt, finK_nx, hfit]) (by rw [← hPP]; exact ⟨rfl, ⟨ar ++ zs.map (fun (j : Nat) => (a, a + 1 + (j : Int))), _, rfl, hq1, hq2, hq3⟩⟩)
theorem drawing_ok : Ok 101 (F18 [.tok, .i 1, .i 10]) IsDr := by
  show Ok 101 (evD fs18 gss 200 7 3 b18 _) _
  have hat : ∀ ws, applyF fs18 1 ws = drawF ws := fun ws => rfl
  generalize fs18 = fs at hat
  rw [d_run 7 3 _ _ rfl]
  simp [b18, v_v, v_non, v_bl, v_int, v_str, v_gl, v_fn, v_tup, v_lst, v_dnew, v_bin, v_neg, v_cmp, v_chain, v_isN, v_notN, v_bop, v_b1, v_b2, v_not, v_ite, v_ix, v_sl, v_call, v_callk, v_callv, v_bi, v_isi, v_comp, l_nil, l_cons, o_nil, o_cons, c_nil', c_cons', i_of', i_rng1', i_rng2', i_enum', i_zip', i_rev', s_nil', s_cons', t_asg, t_par, t_ret, t_retN, t_ite, t_for, t_ex, t_put, t_app, t_ext, t_brk, t_cnt, cmpK, iteK, notK, bopK, tupK, lstK, iteS, asgK, parK, escE, escL, escI, dem, dem1, getN, binW, addW, int2, b1W, lenW, tupleW, listW, intW, isiW, ixW, cmpW, wBool, wInt, isNone, asgE, asgT, asgTs, Tg.is, TgL.is, wipeE, fresh, isBox, datas, W.data?, opt_some, opt_none, M.bind_ret, M.bind_stuck, M.nox_ret, itOf, itEnum, itZip, itRev, ownAt, ownL, W.i, W.b, List.map_cons, List.map_nil, List.set, List.getElem?_cons_zero, List.getElem?_cons_succ, List.length_cons, List.length_nil, List.replicate, List.append_nil, List.nil_append, List.cons_append, ite_true, ite_false, Bool.false_eq_true, reduceCtorEq, if_true, if_false, seqK_nx, seqK_rt, seqK_bk, seqK_ct, finK_rt, finK_nx]
  simp only [M.bind_assoc]
  rw [hat]
  refine (Ok.bind (b1 := 1) (b2 := 100) (Ok.draw (by omega) (by omega)) fun w hw => ?_).imp (by omega) (fun _ z => z)
  obtain ⟨k, rfl, k0, k1⟩ := hw
  obtain ⟨n, hn⟩ : ∃ n, n = 1 + k := ⟨_, rfl⟩
  simp only [W.i, opt_some, M.bind_ret, ← hn]
  simp [v_v, v_non, v_bl, v_int, v_str, v_gl, v_fn, v_tup, v_lst, v_dnew, v_bin, v_neg, v_cmp, v_chain, v_isN, v_notN, v_bop, v_b1, v_b2, v_not, v_ite, v_ix, v_sl, v_call, v_callk, v_callv, v_bi, v_isi, v_comp, l_nil, l_cons, o_nil, o_cons, c_nil', c_cons', i_of', i_rng1', i_rng2', i_enum', i_zip', i_rev', s_nil', s_cons', t_asg, t_par, t_ret, t_retN, t_ite, t_for, t_ex, t_put, t_app, t_ext, t_brk, t_cnt, cmpK, iteK, notK, bopK, tupK, lstK, iteS, asgK, parK, escE, escL, escI, dem, dem1, getN, binW, addW, int2, b1W, lenW, tupleW, listW, intW, isiW, ixW, cmpW, wBool, wInt, isNone, asgE, asgT, asgTs, Tg.is, TgL.is, wipeE, fresh, isBox, datas, W.data?, opt_some, opt_none, M.bind_ret, M.bind_stuck, M.nox_ret, itOf, itEnum, itZip, itRev, ownAt, ownL, W.i, W.b, List.map_cons, List.map_nil, List.set, List.getElem?_cons_zero, List.getElem?_cons_succ, List.length_cons, List.length_nil, List.replicate, List.append_nil, List.nil_append, List.cons_append, ite_true, ite_false, Bool.false_eq_true, reduceCtorEq, if_true, if_false, seqK_nx, seqK_rt, seqK_bk, seqK_ct, finK_rt, finK_nx, itRng_ok (a := 0) (b := n) (by omega) (by omega) (by omega) (by omega)]
  simp only [M.bind_assoc]
  have hlen : ((List.range n.toNat).map fun (k : Nat) => W.d (PyData.int (k : Int))).length ≤ 10 := by rw [List.length_map, List.length_range]; omega
  refine (Ok.bind (b1 := 10 * ((List.range n.toNat).map fun (k : Nat) => W.d (PyData.int (k : Int))).length) (b2 := 0) (forR_ok 10
    (DrI n)
    ⟨⟨[], _, rfl, by simp, .nil, by simp⟩⟩ ?_) ?_).imp (by omega) (fun _ z => z)
  · intro i w r hw hI
    exact dr_step hat (by omega) (by omega) i w r hw hI
  · intro q hq
    obtain ⟨fl, r⟩ := q
    obtain ⟨e, ⟨ar, c5, hr, h1, h2, h3⟩⟩ := hq
    have e : fl = .nx := e
    have hr : r = _ := hr
    subst e
    subst hr
    refine Ok.of (a := drW n ar []) (by simp [v_v, v_non, v_bl, v_int, v_str, v_gl, v_fn, v_tup, v_lst, v_dnew, v_bin, v_neg, v_cmp, v_chain, v_isN, v_notN, v_bop, v_b1, v_b2, v_not, v_ite, v_ix, v_sl, v_call, v_callk, v_callv, v_bi, v_isi, v_comp, l_nil, l_cons, o_nil, o_cons, c_nil', c_cons', i_of', i_rng1', i_rng2', i_enum', i_zip', i_rev', s_nil', s_cons', t_asg, t_par, t_ret, t_retN, t_ite, t_for, t_ex, t_put, t_app, t_ext, t_brk, t_cnt, cmpK, iteK, notK, bopK, tupK, lstK, iteS, asgK, parK, escE, escL, escI, dem, dem1, getN, binW, addW, int2, b1W, lenW, tupleW, listW, intW, isiW, ixW, cmpW, wBool, wInt, isNone, asgE, asgT, asgTs, Tg.is, TgL.is, wipeE, fresh, isBox, datas, W.data?, opt_some, opt_none, M.bind_ret, M.bind_stuck, M.nox_ret, itOf, itEnum, itZip, itRev, ownAt, ownL, W.i, W.b, List.map_cons, List.map_nil, List.set, List.getElem?_cons_zero, List.getElem?_cons_succ, List.length_cons, List.length_nil, List.replicate, List.append_nil, List.nil_append, List.cons_append, ite_true, ite_false, Bool.false_eq_true, reduceCtorEq, if_true, if_false, seqK_nx, seqK_rt, seqK_bk, seqK_ct, finK_rt, finK_nx]) ⟨⟨n, ar, rfl, by omega, by omega, fun p hp => (h1 p hp).1, h2, ?_⟩⟩
    have : cap = 100000 := rfl
    omega
end PDK03
end DS

set_option Elab.async false
set_option linter.all false
set_option autoImplicit false
set_option maxRecDepth 100000
set_option maxHeartbeats 4000000
namespace DS
namespace PDK03
open PySem PySem.Spec PySem.SeqAt PyProof.Rows L2 DK03
theorem itRng0 {n : Int} (h1 : 0 ≤ n) (h2 : n ≤ 100) : itRng 0 n = some ((upto n).map (W.d ∘ PyData.int)) := by
  rw [itRng_ok (by omega) (by omega) (by omega) h2]
  unfold upto
  rw [List.map_map, show n - 0 = n by omega]
  congr 2
  funext k
  show W.i (0 + (k : Int)) = W.d (.int (k : Int))
  rw [Int.zero_add]
theorem filt_ints (xs : List Int) (p : Int → Bool) : (xs.filterMap fun x => if p x = true then some (PyData.int x) else none) = (xs.filter p).map PyData.int := by
  induction xs with
  | nil => rfl
  | cons x xs ih =>
    cases h : p x <;> simp [List.filterMap_cons, List.filter_cons, h, ih]
theorem due_ok {n : Int} {ar : List (Int × Int)} {closed targets : List Int} (h0 : 1 ≤ n) (h1 : n ≤ 10) (ha : ArOk n ar) :
    F20 [drW n ar [], tI closed, tI targets] = .ret (tI ((freeOf n closed).filter fun x => comesB ar (freeOf n closed) targets 20 x)) := by
  show evD fs20 gss 200 5 3 b20 _ = _
  have hat : ∀ ws, applyF fs20 19 ws = evR fs19 gss 200 6 4 b19 20 ws := fun ws => rfl
  generalize fs20 = fs at hat
  rw [d_run 5 3 _ _ rfl]
  have hr := itRng0 (n := n) (by omega) (by omega)
  have a0 : atI [PyData.int n, PyData.tuple (ar.map prD), PyData.tuple []] 0 = some (.int n) := rfl
  have a1 : atI [PyData.int n, PyData.tuple (ar.map prD), PyData.tuple []] 1 = some (.tuple (ar.map prD)) := rfl
  have hc : cap = 100000 := rfl
  have hu := upto_len h1
  simp [b20, v_v, v_non, v_bl, v_int, v_str, v_gl, v_fn, v_tup, v_lst, v_dnew, v_bin, v_neg, v_cmp, v_chain, v_isN, v_notN, v_bop, v_b1, v_b2, v_not, v_ite, v_ix, v_sl, v_call, v_callk, v_callv, v_bi, v_isi, v_comp, l_nil, l_cons, o_nil, o_cons, c_nil', c_cons', i_of', i_rng1', i_rng2', i_enum', i_zip', i_rev', s_nil', s_cons', t_asg, t_par, t_ret, t_retN, t_ite, t_for, t_ex, t_put, t_app, t_ext, t_brk, t_cnt, cmpK, iteK, notK, bopK, tupK, lstK, iteS, asgK, parK, escE, escL, escI, dem, dem1, getN, binW, addW, int2, b1W, lenW, tupleW, listW, intW, isiW, ixW, cmpW, wBool, wInt, isNone, asgE, asgT, asgTs, Tg.is, TgL.is, wipeE, fresh, isBox, datas, W.data?, opt_some, opt_none, M.bind_ret, M.bind_stuck, M.nox_ret, itOf, itEnum, itZip, itRev, ownAt, ownL, W.i, W.b, List.map_cons, List.map_nil, List.set, List.getElem?_cons_zero, List.getElem?_cons_succ, List.length_cons, List.length_nil, List.replicate, List.append_nil, List.nil_append, List.cons_append, ite_true, ite_false, Bool.false_eq_true, reduceCtorEq, if_true, if_false, seqK_nx, seqK_rt, seqK_bk, seqK_ct, finK_rt, finK_nx, drW, tI, a0, hr]
  rw [compR_of (W.d ∘ PyData.int) (fun x => if decide (x ∉ closed) = true then some (.int x) else none) (by omega)]
  · rw [filt_ints]
    have hfl : (freeOf n closed).length ≤ 10 := Nat.le_trans (List.length_filter_le _ _) hu
    generalize hfr : freeOf n closed = fr at hfl
    have hfr2 : ((upto n).filter fun x => decide (x ∉ closed)) = fr := hfr
    rw [hfr2]
    simp [v_v, v_non, v_bl, v_int, v_str, v_gl, v_fn, v_tup, v_lst, v_dnew, v_bin, v_neg, v_cmp, v_chain, v_isN, v_notN, v_bop, v_b1, v_b2, v_not, v_ite, v_ix, v_sl, v_call, v_callk, v_callv, v_bi, v_isi, v_comp, l_nil, l_cons, o_nil, o_cons, c_nil', c_cons', i_of', i_rng1', i_rng2', i_enum', i_zip', i_rev', s_nil', s_cons', t_asg, t_par, t_ret, t_retN, t_ite, t_for, t_ex, t_put, t_app, t_ext, t_brk, t_cnt, cmpK, iteK, notK, bopK, tupK, lstK, iteS, asgK, parK, escE, escL, escI, dem, dem1, getN, binW, addW, int2, b1W, lenW, tupleW, listW, intW, isiW, ixW, cmpW, wBool, wInt, isNone, asgE, asgT, asgTs, Tg.is, TgL.is, wipeE, fresh, isBox, datas, W.data?, opt_some, opt_none, M.bind_ret, M.bind_stuck, M.nox_ret, itOf, itEnum, itZip, itRev, ownAt, ownL, W.i, W.b, List.map_cons, List.map_nil, List.set, List.getElem?_cons_zero, List.getElem?_cons_succ, List.length_cons, List.length_nil, List.replicate, List.append_nil, List.nil_append, List.cons_append, ite_true, ite_false, Bool.false_eq_true, reduceCtorEq, if_true, if_false, seqK_nx, seqK_rt, seqK_bk, seqK_ct, finK_rt, finK_nx]
    rw [compR_of (W.d ∘ PyData.int) (fun x => if comesB ar fr targets 20 x = true then some (.int x) else none) (by omega)]
    · rw [filt_ints]
      simp [v_v, v_non, v_bl, v_int, v_str, v_gl, v_fn, v_tup, v_lst, v_dnew, v_bin, v_neg, v_cmp, v_chain, v_isN, v_notN, v_bop, v_b1, v_b2, v_not, v_ite, v_ix, v_sl, v_call, v_callk, v_callv, v_bi, v_isi, v_comp, l_nil, l_cons, o_nil, o_cons, c_nil', c_cons', i_of', i_rng1', i_rng2', i_enum', i_zip', i_rev', s_nil', s_cons', t_asg, t_par, t_ret, t_retN, t_ite, t_for, t_ex, t_put, t_app, t_ext, t_brk, t_cnt, cmpK, iteK, notK, bopK, tupK, lstK, iteS, asgK, parK, escE, escL, escI, dem, dem1, getN, binW, addW, int2, b1W, lenW, tupleW, listW, intW, isiW, ixW, cmpW, wBool, wInt, isNone, asgE, asgT, asgTs, Tg.is, TgL.is, wipeE, fresh, isBox, datas, W.data?, opt_some, opt_none, M.bind_ret, M.bind_stuck, M.nox_ret, itOf, itEnum, itZip, itRev, ownAt, ownL, W.i, W.b, List.map_cons, List.map_nil, List.set, List.getElem?_cons_zero, List.getElem?_cons_succ, List.length_cons, List.length_nil, List.replicate, List.append_nil, List.nil_append, List.cons_append, ite_true, ite_false, Bool.false_eq_true, reduceCtorEq, if_true, if_false, seqK_nx, seqK_rt, seqK_bk, seqK_ct, finK_rt, finK_nx]
      rw [← hfr2, List.filter_filter]
      simp
    · intro x hx
      have hx2 : x ∈ upto n := by rw [← hfr] at hx; exact (List.mem_filter.mp hx).1
      have := upto_mem.mp hx2
      have e := (hat [.d (.tuple (ar.map prD)), lI fr, .i x, tI targets]).trans (comes_ok ha 20 x (by omega) (by omega))
      simp only [lI, tI, W.i] at e
      cases hb : comesB ar fr targets 20 x <;> rw [hb] at e <;> simp [stepC, v_v, v_non, v_bl, v_int, v_str, v_gl, v_fn, v_tup, v_lst, v_dnew, v_bin, v_neg, v_cmp, v_chain, v_isN, v_notN, v_bop, v_b1, v_b2, v_not, v_ite, v_ix, v_sl, v_call, v_callk, v_callv, v_bi, v_isi, v_comp, l_nil, l_cons, o_nil, o_cons, c_nil', c_cons', i_of', i_rng1', i_rng2', i_enum', i_zip', i_rev', s_nil', s_cons', t_asg, t_par, t_ret, t_retN, t_ite, t_for, t_ex, t_put, t_app, t_ext, t_brk, t_cnt, cmpK, iteK, notK, bopK, tupK, lstK, iteS, asgK, parK, escE, escL, escI, dem, dem1, getN, binW, addW, int2, b1W, lenW, tupleW, listW, intW, isiW, ixW, cmpW, wBool, wInt, isNone, asgE, asgT, asgTs, Tg.is, TgL.is, wipeE, fresh, isBox, datas, W.data?, opt_some, opt_none, M.bind_ret, M.bind_stuck, M.nox_ret, itOf, itEnum, itZip, itRev, ownAt, ownL, W.i, W.b, List.map_cons, List.map_nil, List.set, List.getElem?_cons_zero, List.getElem?_cons_succ, List.length_cons, List.length_nil, List.replicate, List.append_nil, List.nil_append, List.cons_append, ite_true, ite_false, Bool.false_eq_true, reduceCtorEq, if_true, if_false, seqK_nx, seqK_rt, seqK_bk, seqK_ct, finK_rt, finK_nx, a1, e]
  · intro x hx
    by_cases h : x ∈ closed <;> simp [stepC, v_v, v_non, v_bl, v_int, v_str, v_gl, v_fn, v_tup, v_lst, v_dnew, v_bin, v_neg, v_cmp, v_chain, v_isN, v_notN, v_bop, v_b1, v_b2, v_not, v_ite, v_ix, v_sl, v_call, v_callk, v_callv, v_bi, v_isi, v_comp, l_nil, l_cons, o_nil, o_cons, c_nil', c_cons', i_of', i_rng1', i_rng2', i_enum', i_zip', i_rev', s_nil', s_cons', t_asg, t_par, t_ret, t_retN, t_ite, t_for, t_ex, t_put, t_app, t_ext, t_brk, t_cnt, cmpK, iteK, notK, bopK, tupK, lstK, iteS, asgK, parK, escE, escL, escI, dem, dem1, getN, binW, addW, int2, b1W, lenW, tupleW, listW, intW, isiW, ixW, cmpW, wBool, wInt, isNone, asgE, asgT, asgTs, Tg.is, TgL.is, wipeE, fresh, isBox, datas, W.data?, opt_some, opt_none, M.bind_ret, M.bind_stuck, M.nox_ret, itOf, itEnum, itZip, itRev, ownAt, ownL, W.i, W.b, List.map_cons, List.map_nil, List.set, List.getElem?_cons_zero, List.getElem?_cons_succ, List.length_cons, List.length_nil, List.replicate, List.append_nil, List.nil_append, List.cons_append, ite_true, ite_false, Bool.false_eq_true, reduceCtorEq, if_true, if_false, seqK_nx, seqK_rt, seqK_bk, seqK_ct, finK_rt, finK_nx, h]
/-- what the program finds is what is due -/
theorem asc_uniq {xs ys : List Int} (h1 : xs.Pairwise (· < ·)) (h2 : ys.Pairwise (· < ·)) (h : ∀ x, x ∈ xs ↔ x ∈ ys) : xs = ys := by
  induction xs generalizing ys with
  | nil =>
    cases ys with
    | nil => rfl
    | cons y ys => exact absurd ((h y).mpr List.mem_cons_self) (by simp)
  | cons x xs ih =>
    cases ys with
    | nil => exact absurd ((h x).mp List.mem_cons_self) (by simp)
    | cons y ys =>
      obtain ⟨a1, a2⟩ := List.pairwise_cons.mp h1
      obtain ⟨b1, b2⟩ := List.pairwise_cons.mp h2
      have e : x = y := by
        rcases List.mem_cons.mp ((h x).mp List.mem_cons_self) with z | z
        · exact z
        · rcases List.mem_cons.mp ((h y).mpr List.mem_cons_self) with w | w
          · exact w.symm
          · have := b1 x z
            have := a1 y w
            omega
      subst e
      rw [ih a2 b2 fun z => ?_]
      constructor
      · intro hz
        have := a1 z hz
        rcases List.mem_cons.mp ((h z).mp (List.mem_cons_of_mem _ hz)) with w | w
        · omega
        · exact w
      · intro hz
        have := b1 z hz
        rcases List.mem_cons.mp ((h z).mpr (List.mem_cons_of_mem _ hz)) with w | w
        · omega
        · exact w
theorem leadF_sub {ar : List (Int × Int)} {lot goal : List Int} : ∀ {rest found : List Int}, (∀ x ∈ found, x ∉ rest) → found.Nodup → rest.Nodup → (leadF ar lot goal rest found).Nodup
  | [], found, _, h, _ => h
  | x :: rest, found, h1, h2, h3 => by
    rw [leadF_cons]
    obtain ⟨h4, h5⟩ := List.nodup_cons.mp h3
    split
    · refine leadF_sub (fun y hy => ?_) ?_ h5
      · rcases List.mem_append.mp hy with hy | hy
        · exact fun z => h1 y hy (List.mem_cons_of_mem _ z)
        · have : y = x := by simpa using hy
          subst this
          exact h4
      · refine List.nodup_append.mpr ⟨h2, by simp, fun a ha b hb => ?_⟩
        have : b = x := by simpa using hb
        subst this
        exact fun z => h1 a ha (z ▸ List.mem_cons_self)
    · exact leadF_sub (fun y hy z => h1 y hy (List.mem_cons_of_mem _ z)) h2 h5
theorem sortI_asc {xs : List Int} (h : xs.Nodup) : (sortI xs).Pairwise (· < ·) := by
  have h1 := sortI_sorted xs
  have h2 : (sortI xs).Nodup := (sortI_perm xs).symm.nodup h
  exact List.Pairwise.imp₂ (fun a b (x : a ≤ b) (y : a ≠ b) => by omega) h1 h2
theorem lead_mem {ar : List (Int × Int)} {lot goal : List Int} (ha : ∀ p ∈ ar, p.1 < p.2) (hl : lot.Pairwise (· < ·)) (x : Int) : x ∈ leadL ar lot goal ↔ x ∈ lot ∧ Comes ar lot goal x := by
  unfold leadL
  rw [(sortI_perm _).mem_iff]
  exact leadF_comes ha hl x
theorem lead_asc {ar : List (Int × Int)} {lot goal : List Int} (hl : lot.Pairwise (· < ·)) : (leadL ar lot goal).Pairwise (· < ·) :=
  sortI_asc (leadF_sub (fun x hx => by simp at hx) List.nodup_nil (nodup_rev (asc_nodup hl)))
end PDK03
end DS

set_option Elab.async false
set_option linter.all false
set_option autoImplicit false
set_option maxRecDepth 100000
set_option maxHeartbeats 4000000
namespace DS
namespace PDK03
open PySem PySem.Spec PySem.SeqAt PyProof.Rows L2 DK03
theorem showable_ints {xs : List Int} (h : ∀ x ∈ xs, 0 ≤ x ∧ x ≤ 1000) : PyData.showableAll (xs.map PyData.int) = true := by
  induction xs with
  | nil => rfl
  | cons x xs ih =>
    rw [List.map_cons, PyData.showableAll, ih fun y hy => h y (List.mem_cons_of_mem _ hy), PyData.showable]
    have := h x List.mem_cons_self
    have := log_lt (i := x) (m := 20) this.1 (by omega) (by omega)
    simp
    omega
theorem short_ints {xs : List Int} (h : ∀ x ∈ xs, 0 ≤ x ∧ x ≤ 1000) : PyData.leavesShortAll 600 (xs.map PyData.int) = true := by
  induction xs with
  | nil => rfl
  | cons x xs ih =>
    rw [List.map_cons, PyData.leavesShortAll, ih fun y hy => h y (List.mem_cons_of_mem _ hy)]
    have h1 := h x List.mem_cons_self
    have h2 := PyData.shown_int_le (i := x) (by omega)
    rw [PyData.leavesShort, decide_eq_true (Nat.le_trans h2 (by omega))]
    rfl
theorem bulk_ints (xs : List Int) : PyData.bulkAll (xs.map PyData.int) = xs.length := by
  induction xs with
  | nil => rfl
  | cons x xs ih => rw [List.map_cons, PyData.bulkAll, ih, PyData.bulk, List.length_cons]; omega
theorem depth_ints (xs : List Int) : PyData.depthAll (xs.map PyData.int) = 0 := by
  induction xs with
  | nil => rfl
  | cons x xs ih => rw [List.map_cons, PyData.depthAll, ih, PyData.depth]; rfl
theorem okS_tints {xs : List Int} (h : ∀ x ∈ xs, 0 ≤ x ∧ x ≤ 1000) (hl : xs.length ≤ 1000) : okS (.tuple (xs.map PyData.int)) = true := by
  unfold okS
  rw [PyData.showable, PyData.leavesShort, PyData.bulk, PyData.depth, showable_ints h, short_ints h, bulk_ints, depth_ints]
  simp
  omega
theorem like_same {d : PyData} (h : okS d = true) : likeF [.d d, .d d] = .ret (.b true) := by
  show (if okS d = true ∧ okS d = true then M.ret (W.b (decide (d.shown = d.shown))) else .stuck) = _
  rw [if_pos ⟨h, h⟩, decide_eq_true rfl]
/-- the places at which f holds -/
def spots (ks : List Int) (f : Int → Bool) : List Int := ks.zipIdx.filterMap fun p => if f p.1 = true then some (p.2 : Int) else none
theorem enum_ints (ks : List Int) : enumD (ks.map PyData.int) = ks.zipIdx.map fun p => W.d (.tuple [.int (p.2 : Nat), .int p.1]) := by
  unfold enumD
  rw [List.zipIdx_map, List.map_map]
  rfl
theorem spots_mem {ks : List Int} {f : Int → Bool} {x : Int} : x ∈ spots ks f ↔ ∃ (i : Nat) (k : Int), ks[i]? = some k ∧ f k = true ∧ x = i := by
  unfold spots
  rw [List.mem_filterMap]
  constructor
  · rintro ⟨⟨k, i⟩, h1, h2⟩
    cases h : f k with
    | true => rw [if_pos h] at h2; cases h2; exact ⟨i, k, List.mem_zipIdx_iff_getElem?.mp h1, h, rfl⟩
    | false => rw [if_neg (by rw [h]; exact Bool.false_ne_true)] at h2; cases h2
  · rintro ⟨i, k, h1, h2, rfl⟩
    exact ⟨(k, i), List.mem_zipIdx_iff_getElem?.mpr h1, by rw [if_pos h2]⟩
theorem spots_asc (ks : List Int) (f : Int → Bool) : (spots ks f).Pairwise (· < ·) := by
  unfold spots
  have go : ∀ (ks : List Int) (m : Nat), ((ks.zipIdx m).filterMap fun p => if f p.1 = true then some (p.2 : Int) else none).Pairwise (· < ·) ∧ ∀ x ∈ (ks.zipIdx m).filterMap (fun p => if f p.1 = true then some (p.2 : Int) else none), (m : Int) ≤ x := by
    intro ks
    induction ks with
    | nil => intro m; exact ⟨.nil, fun x h => by simp at h⟩
    | cons k ks ih =>
      intro m
      obtain ⟨h1, h2⟩ := ih (m + 1)
      rw [List.zipIdx_cons, List.filterMap_cons]
      cases h : f k with
      | false => simp only [Bool.false_eq_true, if_false]; exact ⟨h1, fun x hx => by have := h2 x hx; omega⟩
      | true =>
        simp only [if_true]
        refine ⟨List.pairwise_cons.mpr ⟨fun x hx => by have := h2 x hx; omega, h1⟩, fun x hx => ?_⟩
        rcases List.mem_cons.mp hx with rfl | hx
        · omega
        · have := h2 x hx; omega
  exact (go ks 0).1
theorem spots_set {n : Int} {ks : List Int} {f : Int → Bool} (h1 : n ≤ 10) (hl : ks.length = n.toNat) : SetOk (n - 1) (spots ks f) where
  rng := fun x hx => by
    obtain ⟨i, k, h, _, rfl⟩ := spots_mem.mp hx
    have := get_lt' h
    omega
  asc := spots_asc ks f
  few := by
    have := List.length_filterMap_le (fun p : Int × Nat => if f p.1 = true then some (p.2 : Int) else none) ks.zipIdx
    rw [List.length_zipIdx] at this
    have : cap = 100000 := rfl
    unfold spots
    omega
theorem kinds_of {α : Type} {m : Int} {xs : List α} {os : List (Option PyData)} (h : All2 (fun _ o => ∃ k : Int, o = some (.int k) ∧ 0 ≤ k ∧ k < m) xs os) : ∃ ks : List Int, ks.length = xs.length ∧ os.filterMap id = ks.map PyData.int ∧ ∀ k ∈ ks, 0 ≤ k ∧ k < m := by
  induction h with
  | nil => exact ⟨[], rfl, rfl, fun k h => by simp at h⟩
  | cons r t ih =>
    obtain ⟨k, rfl, k0, k1⟩ := r
    obtain ⟨ks, h1, h2, h3⟩ := ih
    refine ⟨k :: ks, by rw [List.length_cons, List.length_cons, h1], by simpa using h2, fun j hj => ?_⟩
    rcases List.mem_cons.mp hj with rfl | hj
    · exact ⟨k0, k1⟩
    · exact h3 j hj
/-- a comprehension over an enumeration -/
theorem comp_spots {fs : Fns} {gs : List W} {r : Env} {tg : Tg} {cs : EL} {elt : E} {ks : List Int} (f : Int → Bool) (hl : ks.length ≤ 10) (h : ∀ p ∈ ks.zipIdx, stepC fs gs r tg cs elt (W.d (.tuple [.int (p.2 : Nat), .int p.1])) = .ret (if f p.1 = true then some (.int (p.2 : Nat)) else none)) :
    compR fs gs r tg cs elt (enumD (ks.map PyData.int)) = .ret (.d (.list ((spots ks f).map .int))) := by
  rw [enum_ints, compR_of (fun p : Int × Nat => W.d (.tuple [.int (p.2 : Nat), .int p.1])) (fun p => if f p.1 = true then some (.int (p.2 : Nat)) else none) (by rw [List.length_zipIdx]; have : cap = 100000 := rfl; omega) h]
  congr 2
  unfold spots
  rw [List.map_filterMap]
  congr 1
  congr 1
  funext p
  cases f p.1 <;> rfl
end PDK03
end DS

set_option Elab.async false
set_option linter.all false
set_option autoImplicit false
set_option maxRecDepth 100000
set_option maxHeartbeats 4000000
namespace DS
namespace PDK03
open PySem PySem.Spec PySem.SeqAt PyProof.Rows L2 DK03
theorem comes_mono {ar : List (Int × Int)} {lot lot' goal goal' : List Int} (h1 : ∀ x ∈ lot, x ∈ lot') (h2 : ∀ x ∈ goal, x ∈ goal') {x : Int} (h : Comes ar lot goal x) : Comes ar lot' goal' x := by
  induction h with
  | here h => exact .here (h2 _ h)
  | step a b _ ih => exact .step a (h1 _ b) ih
theorem comes_none {ar : List (Int × Int)} {lot : List Int} {x : Int} (h : Comes ar lot [] x) : False := by
  induction h with
  | here h => simp at h
  | step _ _ _ ih => exact ih
theorem ar_up {n : Int} {ar : List (Int × Int)} (ha : ArOk n ar) : ∀ p ∈ ar, p.1 < p.2 := fun p hp => (ha.ok p hp).2.1
theorem free_asc (n : Int) (shut : List Int) : (freeOf n shut).Pairwise (· < ·) := (upto_asc n).sublist List.filter_sublist
theorem free_mem {n x : Int} {shut : List Int} : x ∈ freeOf n shut ↔ (0 ≤ x ∧ x < n) ∧ x ∉ shut := by
  unfold freeOf
  rw [List.mem_filter, upto_mem]
  simp
theorem due_eq {n : Int} {ar : List (Int × Int)} {closed targets : List Int} (h0 : 1 ≤ n) (h1 : n ≤ 10) (ha : ArOk n ar) :
    ((freeOf n closed).filter fun x => comesB ar (freeOf n closed) targets 20 x) = leadL ar (freeOf n closed) targets := by
  refine asc_uniq ((free_asc n closed).sublist List.filter_sublist) (lead_asc (free_asc n closed)) fun x => ?_
  rw [List.mem_filter, lead_mem (ar_up ha) (free_asc n closed)]
  constructor
  · rintro ⟨g1, g2⟩
    have := (free_mem.mp g1).1
    exact ⟨g1, (comesB_iff ha 20 x (by omega) (by omega)).mp g2⟩
  · rintro ⟨g1, g2⟩
    have := (free_mem.mp g1).1
    exact ⟨g1, (comesB_iff ha 20 x (by omega) (by omega)).mpr g2⟩
theorem lead_small {n : Int} {ar : List (Int × Int)} {shut goal : List Int} (h1 : n ≤ 10) (ha : ArOk n ar) : ∀ x ∈ leadL ar (freeOf n shut) goal, 0 ≤ x ∧ x ≤ 1000 := fun x hx => by
  have := (free_mem.mp ((lead_mem (ar_up ha) (free_asc n shut) x).mp hx).1).1
  omega
theorem asc_len {n : Int} (h1 : n ≤ 10) {xs : List Int} (h : xs.Pairwise (· < ·)) (hs : ∀ x ∈ xs, 0 ≤ x ∧ x < n) : xs.length ≤ 10 := by
  have e : xs = (upto n).filter fun x => decide (x ∈ xs) := asc_uniq h ((upto_asc n).sublist List.filter_sublist) fun x => by
    rw [List.mem_filter, upto_mem]
    constructor
    · intro hx; exact ⟨hs x hx, by simpa using hx⟩
    · rintro ⟨_, hx⟩; simpa using hx
  rw [e]
  exact Nat.le_trans (List.length_filter_le _ _) (upto_len h1)
theorem lead_len {n : Int} {ar : List (Int × Int)} {shut goal : List Int} (h1 : n ≤ 10) (ha : ArOk n ar) : (leadL ar (freeOf n shut) goal).length ≤ 10 :=
  asc_len h1 (lead_asc (free_asc n shut)) fun x hx => (free_mem.mp ((lead_mem (ar_up ha) (free_asc n shut) x).mp hx).1).1
theorem lead_nil {ar : List (Int × Int)} {lot : List Int} (ha : ∀ p ∈ ar, p.1 < p.2) (hl : lot.Pairwise (· < ·)) : leadL ar lot [] = [] := by
  refine asc_uniq (lead_asc hl) .nil fun x => ?_
  rw [lead_mem ha hl]
  constructor
  · rintro ⟨_, h⟩; exact (comes_none h).elim
  · intro h; simp at h
theorem lead_self {n : Int} {ar : List (Int × Int)} {goal : List Int} (ha : ∀ p ∈ ar, p.1 < p.2) (hg : goal.Pairwise (· < ·)) (hs : ∀ x ∈ goal, 0 ≤ x ∧ x < n) : leadL ar (freeOf n ((upto n).filter fun x => decide (x ∉ goal))) goal = goal := by
  have hm : ∀ x, x ∈ freeOf n ((upto n).filter fun x => decide (x ∉ goal)) ↔ x ∈ goal := fun x => by
    rw [free_mem, List.mem_filter, upto_mem]
    constructor
    · rintro ⟨h1, h2⟩
      by_cases h : x ∈ goal
      · exact h
      · exact absurd ⟨h1, by simpa using h⟩ h2
    · intro h
      refine ⟨hs x h, fun z => ?_⟩
      have := z.2
      simp at this
      exact this h
  refine asc_uniq (lead_asc (free_asc n _)) hg fun x => ?_
  rw [lead_mem ha (free_asc n _), hm]
  exact ⟨fun h => h.1, fun h => ⟨h, .here h⟩⟩
theorem cut_last (ds : List PyData) : cutD ds none (some (-1)) = ds.dropLast := by
  unfold cutD
  rw [List.dropLast_eq_take]
  have e1 : HT.sIx ds.length 0 none = 0 := HT.sIx_none _ _
  rw [e1]
  have e2 : HT.sIx ds.length ds.length (some (-1)) = ds.length - 1 := by
    show (if (-1 : Int) < 0 then ((-1 : Int) + (ds.length : Int)).toNat else min (-1 : Int).toNat ds.length) = _
    rw [if_pos (by omega)]
    omega
  rw [e2, List.drop_zero, Nat.sub_zero]
end PDK03
end DS

set_option Elab.async false
set_option linter.all false
set_option autoImplicit false
set_option maxRecDepth 100000
set_option maxHeartbeats 8000000
namespace DS
namespace PDK03
open PySem PySem.Spec PySem.SeqAt PyProof.Rows L2 DK03
theorem eqW_nil : eqW (.d (.list [])) (.d (.list [])) = some true := rfl
theorem fm_none (xs : List Int) : xs.filterMap (fun _ => (none : Option PyData)) = [] := filterMap_none fun _ _ => rfl
structure IsT (w : W) : Prop where
  ex : w = W.b true
theorem right_ok : Ok 120 (F21 [.tok]) IsT := by
  show Ok 120 (evD fs21 gss 200 12 1 b21 _) _
  have h1 : ∀ ws, applyF fs21 1 ws = drawF ws := fun ws => rfl
  have h2 : ∀ ws, applyF fs21 2 ws = likeF ws := fun ws => rfl
  have h16 : ∀ ws, applyF fs21 16 ws = F16 ws := fun ws => rfl
  have h17 : ∀ ws, applyF fs21 17 ws = F17 ws := fun ws => rfl
  have h18 : ∀ ws, applyF fs21 18 ws = F18 ws := fun ws => rfl
  have h20 : ∀ ws, applyF fs21 20 ws = F20 ws := fun ws => rfl
  generalize fs21 = fs at h1 h2 h16 h17 h18 h20
  rw [d_run 12 1 _ _ rfl]
  simp [b21, v_v, v_non, v_bl, v_int, v_str, v_gl, v_fn, v_tup, v_lst, v_dnew, v_bin, v_neg, v_cmp, v_chain, v_isN, v_notN, v_bop, v_b1, v_b2, v_not, v_ite, v_ix, v_sl, v_call, v_callk, v_callv, v_bi, v_isi, v_comp, l_nil, l_cons, o_nil, o_cons, c_nil', c_cons', i_of', i_rng1', i_rng2', i_enum', i_zip', i_rev', s_nil', s_cons', t_asg, t_par, t_ret, t_retN, t_ite, t_for, t_ex, t_put, t_app, t_ext, t_brk, t_cnt, cmpK, iteK, notK, bopK, tupK, lstK, iteS, asgK, parK, escE, escL, escI, dem, dem1, getN, binW, addW, int2, b1W, lenW, tupleW, listW, intW, isiW, ixW, cmpW, wBool, wInt, isNone, asgE, asgT, asgTs, Tg.is, TgL.is, wipeE, fresh, isBox, datas, W.data?, opt_some, opt_none, M.bind_ret, M.bind_stuck, M.nox_ret, itOf, itEnum, itZip, itRev, ownAt, ownL, W.i, W.b, List.map_cons, List.map_nil, List.set, List.getElem?_cons_zero, List.getElem?_cons_succ, List.length_cons, List.length_nil, List.replicate, List.append_nil, List.nil_append, List.cons_append, ite_true, ite_false, Bool.false_eq_true, reduceCtorEq, if_true, if_false, seqK_nx, seqK_rt, seqK_bk, seqK_ct, finK_rt, finK_nx]
  simp only [M.bind_assoc]
  have hdr := drawing_ok
  simp only [W.i] at hdr
  rw [h18]
  refine (Ok.bind (b1 := 101) (b2 := 19) hdr fun w hw => ?_).imp (by omega) (fun _ z => z)
  obtain ⟨n, ar, rfl, n0, n1, ha⟩ := hw
  have a0 : atI [PyData.int n, PyData.tuple (ar.map prD), PyData.tuple (([] : List (List Int)).map csD)] 0 = some (.int n) := rfl
  have a0' : atI [PyData.int n, PyData.tuple (ar.map prD), PyData.tuple []] 0 = some (.int n) := rfl
  have hr := itRng0 (n := n) (by omega) (by omega)
  have hu := upto_len n1
  have hcap : cap = 100000 := rfl
  simp [v_v, v_non, v_bl, v_int, v_str, v_gl, v_fn, v_tup, v_lst, v_dnew, v_bin, v_neg, v_cmp, v_chain, v_isN, v_notN, v_bop, v_b1, v_b2, v_not, v_ite, v_ix, v_sl, v_call, v_callk, v_callv, v_bi, v_isi, v_comp, l_nil, l_cons, o_nil, o_cons, c_nil', c_cons', i_of', i_rng1', i_rng2', i_enum', i_zip', i_rev', s_nil', s_cons', t_asg, t_par, t_ret, t_retN, t_ite, t_for, t_ex, t_put, t_app, t_ext, t_brk, t_cnt, cmpK, iteK, notK, bopK, tupK, lstK, iteS, asgK, parK, escE, escL, escI, dem, dem1, getN, binW, addW, int2, b1W, lenW, tupleW, listW, intW, isiW, ixW, cmpW, wBool, wInt, isNone, asgE, asgT, asgTs, Tg.is, TgL.is, wipeE, fresh, isBox, datas, W.data?, opt_some, opt_none, M.bind_ret, M.bind_stuck, M.nox_ret, itOf, itEnum, itZip, itRev, ownAt, ownL, W.i, W.b, List.map_cons, List.map_nil, List.set, List.getElem?_cons_zero, List.getElem?_cons_succ, List.length_cons, List.length_nil, List.replicate, List.append_nil, List.nil_append, List.cons_append, ite_true, ite_false, Bool.false_eq_true, reduceCtorEq, if_true, if_false, seqK_nx, seqK_rt, seqK_bk, seqK_ct, finK_rt, finK_nx, a0, a0', hr]
  simp only [M.bind_assoc]
  refine (Ok.bind (b1 := 1 * (upto n).length) (b2 := 0) (compR_ok (W.d ∘ PyData.int) (fun _ o => ∃ k : Int, o = some (.int k) ∧ 0 ≤ k ∧ k < 4) 1 (by omega) (fun x _ => ?_)) fun w hw => ?_).imp (by omega) (fun _ z => z)
  · simp [stepC, v_v, v_non, v_bl, v_int, v_str, v_gl, v_fn, v_tup, v_lst, v_dnew, v_bin, v_neg, v_cmp, v_chain, v_isN, v_notN, v_bop, v_b1, v_b2, v_not, v_ite, v_ix, v_sl, v_call, v_callk, v_callv, v_bi, v_isi, v_comp, l_nil, l_cons, o_nil, o_cons, c_nil', c_cons', i_of', i_rng1', i_rng2', i_enum', i_zip', i_rev', s_nil', s_cons', t_asg, t_par, t_ret, t_retN, t_ite, t_for, t_ex, t_put, t_app, t_ext, t_brk, t_cnt, cmpK, iteK, notK, bopK, tupK, lstK, iteS, asgK, parK, escE, escL, escI, dem, dem1, getN, binW, addW, int2, b1W, lenW, tupleW, listW, intW, isiW, ixW, cmpW, wBool, wInt, isNone, asgE, asgT, asgTs, Tg.is, TgL.is, wipeE, fresh, isBox, datas, W.data?, opt_some, opt_none, M.bind_ret, M.bind_stuck, M.nox_ret, itOf, itEnum, itZip, itRev, ownAt, ownL, W.i, W.b, List.map_cons, List.map_nil, List.set, List.getElem?_cons_zero, List.getElem?_cons_succ, List.length_cons, List.length_nil, List.replicate, List.append_nil, List.nil_append, List.cons_append, ite_true, ite_false, Bool.false_eq_true, reduceCtorEq, if_true, if_false, seqK_nx, seqK_rt, seqK_bk, seqK_ct, finK_rt, finK_nx]
    rw [h1]
    refine (Ok.bind (b1 := 1) (b2 := 0) (Ok.draw (by omega) (by omega)) fun w hw => ?_).imp (by omega) (fun _ z => z)
    obtain ⟨k, rfl, k0, k1⟩ := hw
    exact Ok.of (a := some (.int k)) (by simp [v_v, v_non, v_bl, v_int, v_str, v_gl, v_fn, v_tup, v_lst, v_dnew, v_bin, v_neg, v_cmp, v_chain, v_isN, v_notN, v_bop, v_b1, v_b2, v_not, v_ite, v_ix, v_sl, v_call, v_callk, v_callv, v_bi, v_isi, v_comp, l_nil, l_cons, o_nil, o_cons, c_nil', c_cons', i_of', i_rng1', i_rng2', i_enum', i_zip', i_rev', s_nil', s_cons', t_asg, t_par, t_ret, t_retN, t_ite, t_for, t_ex, t_put, t_app, t_ext, t_brk, t_cnt, cmpK, iteK, notK, bopK, tupK, lstK, iteS, asgK, parK, escE, escL, escI, dem, dem1, getN, binW, addW, int2, b1W, lenW, tupleW, listW, intW, isiW, ixW, cmpW, wBool, wInt, isNone, asgE, asgT, asgTs, Tg.is, TgL.is, wipeE, fresh, isBox, datas, W.data?, opt_some, opt_none, M.bind_ret, M.bind_stuck, M.nox_ret, itOf, itEnum, itZip, itRev, ownAt, ownL, W.i, W.b, List.map_cons, List.map_nil, List.set, List.getElem?_cons_zero, List.getElem?_cons_succ, List.length_cons, List.length_nil, List.replicate, List.append_nil, List.nil_append, List.cons_append, ite_true, ite_false, Bool.false_eq_true, reduceCtorEq, if_true, if_false, seqK_nx, seqK_rt, seqK_bk, seqK_ct, finK_rt, finK_nx]) ⟨k, rfl, k0, k1⟩
  · obtain ⟨os, ho, rfl⟩ := hw
    obtain ⟨ks, hk1, hk2, hk3⟩ := kinds_of ho
    rw [hk2]
    refine Ok.of (a := W.b true) ?_ ⟨rfl⟩
    have hkl : ks.length ≤ 10 := by rw [hk1]; exact hu
    have hn : ks.length = n.toNat := by rw [hk1]; unfold upto; rw [List.length_map, List.length_range]
    have sc0 : SetOk (n - 1) (spots ks fun k => decide (k = 0)) := spots_set n1 hn
    have st1 : SetOk (n - 1) (spots ks fun k => decide (k = 1)) := spots_set n1 hn
    have sm2 : SetOk (n - 1) (spots ks fun k => decide (k = 1 ∨ k = 2)) := spots_set n1 hn
    have dis : ∀ (f g : Int → Bool), (∀ k, f k = true → g k = true → False) → ∀ x ∈ spots ks f, x ∉ spots ks g := by
      intro f g hfg x hx hy
      obtain ⟨i, k, e1, e2, rfl⟩ := spots_mem.mp hx
      obtain ⟨j, k2, e3, e4, e5⟩ := spots_mem.mp hy
      have : i = j := by omega
      subst this
      rw [e1] at e3
      cases e3
      exact hfg k e2 e4
    have d10 : ∀ x ∈ spots ks (fun k => decide (k = 1)), x ∉ spots ks fun k => decide (k = 0) := dis _ _ fun k u v => by simp at u v; omega
    have d20 : ∀ x ∈ spots ks (fun k => decide (k = 1 ∨ k = 2)), x ∉ spots ks fun k => decide (k = 0) := dis _ _ fun k u v => by simp at u v; omega
    have s12 : ∀ x ∈ spots ks (fun k => decide (k = 1)), x ∈ spots ks fun k => decide (k = 1 ∨ k = 2) := by
      intro x hx
      obtain ⟨i, k, e1, e2, rfl⟩ := spots_mem.mp hx
      exact spots_mem.mpr ⟨i, k, e1, by simp at e2 ⊢; exact .inl e2, rfl⟩
    have in12 : ∀ k : Int, inW (.d (.int k)) (.d (.tuple [.int 1, .int 2])) = some (decide (k ∈ ([1, 2] : List Int))) := fun k => inW_tints k [1, 2]
    simp [v_v, v_non, v_bl, v_int, v_str, v_gl, v_fn, v_tup, v_lst, v_dnew, v_bin, v_neg, v_cmp, v_chain, v_isN, v_notN, v_bop, v_b1, v_b2, v_not, v_ite, v_ix, v_sl, v_call, v_callk, v_callv, v_bi, v_isi, v_comp, l_nil, l_cons, o_nil, o_cons, c_nil', c_cons', i_of', i_rng1', i_rng2', i_enum', i_zip', i_rev', s_nil', s_cons', t_asg, t_par, t_ret, t_retN, t_ite, t_for, t_ex, t_put, t_app, t_ext, t_brk, t_cnt, cmpK, iteK, notK, bopK, tupK, lstK, iteS, asgK, parK, escE, escL, escI, dem, dem1, getN, binW, addW, int2, b1W, lenW, tupleW, listW, intW, isiW, ixW, cmpW, wBool, wInt, isNone, asgE, asgT, asgTs, Tg.is, TgL.is, wipeE, fresh, isBox, datas, W.data?, opt_some, opt_none, M.bind_ret, M.bind_stuck, M.nox_ret, itOf, itEnum, itZip, itRev, ownAt, ownL, W.i, W.b, List.map_cons, List.map_nil, List.set, List.getElem?_cons_zero, List.getElem?_cons_succ, List.length_cons, List.length_nil, List.replicate, List.append_nil, List.nil_append, List.cons_append, ite_true, ite_false, Bool.false_eq_true, reduceCtorEq, if_true, if_false, seqK_nx, seqK_rt, seqK_bk, seqK_ct, finK_rt, finK_nx]
    rw [comp_spots (fun k => decide (k = 0)) hkl (by intro p hp; by_cases h : p.1 = 0 <;> simp [stepC, v_v, v_non, v_bl, v_int, v_str, v_gl, v_fn, v_tup, v_lst, v_dnew, v_bin, v_neg, v_cmp, v_chain, v_isN, v_notN, v_bop, v_b1, v_b2, v_not, v_ite, v_ix, v_sl, v_call, v_callk, v_callv, v_bi, v_isi, v_comp, l_nil, l_cons, o_nil, o_cons, c_nil', c_cons', i_of', i_rng1', i_rng2', i_enum', i_zip', i_rev', s_nil', s_cons', t_asg, t_par, t_ret, t_retN, t_ite, t_for, t_ex, t_put, t_app, t_ext, t_brk, t_cnt, cmpK, iteK, notK, bopK, tupK, lstK, iteS, asgK, parK, escE, escL, escI, dem, dem1, getN, binW, addW, int2, b1W, lenW, tupleW, listW, intW, isiW, ixW, cmpW, wBool, wInt, isNone, asgE, asgT, asgTs, Tg.is, TgL.is, wipeE, fresh, isBox, datas, W.data?, opt_some, opt_none, M.bind_ret, M.bind_stuck, M.nox_ret, itOf, itEnum, itZip, itRev, ownAt, ownL, W.i, W.b, List.map_cons, List.map_nil, List.set, List.getElem?_cons_zero, List.getElem?_cons_succ, List.length_cons, List.length_nil, List.replicate, List.append_nil, List.nil_append, List.cons_append, ite_true, ite_false, Bool.false_eq_true, reduceCtorEq, if_true, if_false, seqK_nx, seqK_rt, seqK_bk, seqK_ct, finK_rt, finK_nx, h])]
    simp [v_v, v_non, v_bl, v_int, v_str, v_gl, v_fn, v_tup, v_lst, v_dnew, v_bin, v_neg, v_cmp, v_chain, v_isN, v_notN, v_bop, v_b1, v_b2, v_not, v_ite, v_ix, v_sl, v_call, v_callk, v_callv, v_bi, v_isi, v_comp, l_nil, l_cons, o_nil, o_cons, c_nil', c_cons', i_of', i_rng1', i_rng2', i_enum', i_zip', i_rev', s_nil', s_cons', t_asg, t_par, t_ret, t_retN, t_ite, t_for, t_ex, t_put, t_app, t_ext, t_brk, t_cnt, cmpK, iteK, notK, bopK, tupK, lstK, iteS, asgK, parK, escE, escL, escI, dem, dem1, getN, binW, addW, int2, b1W, lenW, tupleW, listW, intW, isiW, ixW, cmpW, wBool, wInt, isNone, asgE, asgT, asgTs, Tg.is, TgL.is, wipeE, fresh, isBox, datas, W.data?, opt_some, opt_none, M.bind_ret, M.bind_stuck, M.nox_ret, itOf, itEnum, itZip, itRev, ownAt, ownL, W.i, W.b, List.map_cons, List.map_nil, List.set, List.getElem?_cons_zero, List.getElem?_cons_succ, List.length_cons, List.length_nil, List.replicate, List.append_nil, List.nil_append, List.cons_append, ite_true, ite_false, Bool.false_eq_true, reduceCtorEq, if_true, if_false, seqK_nx, seqK_rt, seqK_bk, seqK_ct, finK_rt, finK_nx]
    rw [comp_spots (fun k => decide (k = 1)) hkl (by intro p hp; by_cases h : p.1 = 1 <;> simp [stepC, v_v, v_non, v_bl, v_int, v_str, v_gl, v_fn, v_tup, v_lst, v_dnew, v_bin, v_neg, v_cmp, v_chain, v_isN, v_notN, v_bop, v_b1, v_b2, v_not, v_ite, v_ix, v_sl, v_call, v_callk, v_callv, v_bi, v_isi, v_comp, l_nil, l_cons, o_nil, o_cons, c_nil', c_cons', i_of', i_rng1', i_rng2', i_enum', i_zip', i_rev', s_nil', s_cons', t_asg, t_par, t_ret, t_retN, t_ite, t_for, t_ex, t_put, t_app, t_ext, t_brk, t_cnt, cmpK, iteK, notK, bopK, tupK, lstK, iteS, asgK, parK, escE, escL, escI, dem, dem1, getN, binW, addW, int2, b1W, lenW, tupleW, listW, intW, isiW, ixW, cmpW, wBool, wInt, isNone, asgE, asgT, asgTs, Tg.is, TgL.is, wipeE, fresh, isBox, datas, W.data?, opt_some, opt_none, M.bind_ret, M.bind_stuck, M.nox_ret, itOf, itEnum, itZip, itRev, ownAt, ownL, W.i, W.b, List.map_cons, List.map_nil, List.set, List.getElem?_cons_zero, List.getElem?_cons_succ, List.length_cons, List.length_nil, List.replicate, List.append_nil, List.nil_append, List.cons_append, ite_true, ite_false, Bool.false_eq_true, reduceCtorEq, if_true, if_false, seqK_nx, seqK_rt, seqK_bk, seqK_ct, finK_rt, finK_nx, h])]
    generalize hc0 : spots ks (fun k => decide (k = 0)) = c0 at sc0 d10 d20
    generalize ht1 : spots ks (fun k => decide (k = 1)) = t1 at st1 d10 s12
    obtain ⟨D, hD⟩ : ∃ D, D = leadL ar (freeOf n c0) t1 := ⟨_, rfl⟩
    have e20 : applyF fs 20 [drW n ar [], tI c0, tI t1] = .ret (tI D) := by rw [h20, due_ok n0 n1 ha, due_eq n0 n1 ha, hD]
    have e17 : applyF fs 17 [drW n ar [], tI c0, tI t1] = .ret (tI D) := by rw [h17, goal_ok n0 n1 ha sc0 st1 d10, hD]
    have okD : okS (.tuple (D.map PyData.int)) = true := okS_tints (by rw [hD]; exact lead_small n1 ha) (by rw [hD]; have := lead_len (shut := c0) (goal := t1) n1 ha; omega)
    have e2 : applyF fs 2 [tI D, tI D] = .ret (.b true) := by rw [h2]; exact like_same okD
    have hfl : (freeOf n c0).length ≤ 10 := Nat.le_trans (List.length_filter_le _ _) hu
    have hsf : SetOk (n - 1) (freeOf n c0) := filter_set n1 _
    have hsub : ∀ x ∈ t1, x ∈ freeOf n c0 := fun x hx => free_mem.mpr ⟨by have := st1.rng x hx; omega, d10 x hx⟩
    have e16 : applyF fs 16 [drW n ar [], tI (freeOf n c0), tI t1] = .ret (tI D) := by rw [h16, lead_ok n0 n1 ha hsf (by omega) st1 hsub, hD]
    simp only [tI, W.b] at e20 e17 e2 e16
    simp [v_v, v_non, v_bl, v_int, v_str, v_gl, v_fn, v_tup, v_lst, v_dnew, v_bin, v_neg, v_cmp, v_chain, v_isN, v_notN, v_bop, v_b1, v_b2, v_not, v_ite, v_ix, v_sl, v_call, v_callk, v_callv, v_bi, v_isi, v_comp, l_nil, l_cons, o_nil, o_cons, c_nil', c_cons', i_of', i_rng1', i_rng2', i_enum', i_zip', i_rev', s_nil', s_cons', t_asg, t_par, t_ret, t_retN, t_ite, t_for, t_ex, t_put, t_app, t_ext, t_brk, t_cnt, cmpK, iteK, notK, bopK, tupK, lstK, iteS, asgK, parK, escE, escL, escI, dem, dem1, getN, binW, addW, int2, b1W, lenW, tupleW, listW, intW, isiW, ixW, cmpW, wBool, wInt, isNone, asgE, asgT, asgTs, Tg.is, TgL.is, wipeE, fresh, isBox, datas, W.data?, opt_some, opt_none, M.bind_ret, M.bind_stuck, M.nox_ret, itOf, itEnum, itZip, itRev, ownAt, ownL, W.i, W.b, List.map_cons, List.map_nil, List.set, List.getElem?_cons_zero, List.getElem?_cons_succ, List.length_cons, List.length_nil, List.replicate, List.append_nil, List.nil_append, List.cons_append, ite_true, ite_false, Bool.false_eq_true, reduceCtorEq, if_true, if_false, seqK_nx, seqK_rt, seqK_bk, seqK_ct, finK_rt, finK_nx, e20, e17, e2, a0, a0', hr]
    rw [compR_of (W.d ∘ PyData.int) (fun x => if decide (x ∉ c0) = true then some (.int x) else none) (by omega) (by intro x hx; by_cases h : x ∈ c0 <;> simp [stepC, v_v, v_non, v_bl, v_int, v_str, v_gl, v_fn, v_tup, v_lst, v_dnew, v_bin, v_neg, v_cmp, v_chain, v_isN, v_notN, v_bop, v_b1, v_b2, v_not, v_ite, v_ix, v_sl, v_call, v_callk, v_callv, v_bi, v_isi, v_comp, l_nil, l_cons, o_nil, o_cons, c_nil', c_cons', i_of', i_rng1', i_rng2', i_enum', i_zip', i_rev', s_nil', s_cons', t_asg, t_par, t_ret, t_retN, t_ite, t_for, t_ex, t_put, t_app, t_ext, t_brk, t_cnt, cmpK, iteK, notK, bopK, tupK, lstK, iteS, asgK, parK, escE, escL, escI, dem, dem1, getN, binW, addW, int2, b1W, lenW, tupleW, listW, intW, isiW, ixW, cmpW, wBool, wInt, isNone, asgE, asgT, asgTs, Tg.is, TgL.is, wipeE, fresh, isBox, datas, W.data?, opt_some, opt_none, M.bind_ret, M.bind_stuck, M.nox_ret, itOf, itEnum, itZip, itRev, ownAt, ownL, W.i, W.b, List.map_cons, List.map_nil, List.set, List.getElem?_cons_zero, List.getElem?_cons_succ, List.length_cons, List.length_nil, List.replicate, List.append_nil, List.nil_append, List.cons_append, ite_true, ite_false, Bool.false_eq_true, reduceCtorEq, if_true, if_false, seqK_nx, seqK_rt, seqK_bk, seqK_ct, finK_rt, finK_nx, h]), filt_ints]
    rw [show ((upto n).filter fun x => decide (x ∉ c0)) = freeOf n c0 from rfl]
    generalize hfr : freeOf n c0 = fr at *
    simp [v_v, v_non, v_bl, v_int, v_str, v_gl, v_fn, v_tup, v_lst, v_dnew, v_bin, v_neg, v_cmp, v_chain, v_isN, v_notN, v_bop, v_b1, v_b2, v_not, v_ite, v_ix, v_sl, v_call, v_callk, v_callv, v_bi, v_isi, v_comp, l_nil, l_cons, o_nil, o_cons, c_nil', c_cons', i_of', i_rng1', i_rng2', i_enum', i_zip', i_rev', s_nil', s_cons', t_asg, t_par, t_ret, t_retN, t_ite, t_for, t_ex, t_put, t_app, t_ext, t_brk, t_cnt, cmpK, iteK, notK, bopK, tupK, lstK, iteS, asgK, parK, escE, escL, escI, dem, dem1, getN, binW, addW, int2, b1W, lenW, tupleW, listW, intW, isiW, ixW, cmpW, wBool, wInt, isNone, asgE, asgT, asgTs, Tg.is, TgL.is, wipeE, fresh, isBox, datas, W.data?, opt_some, opt_none, M.bind_ret, M.bind_stuck, M.nox_ret, itOf, itEnum, itZip, itRev, ownAt, ownL, W.i, W.b, List.map_cons, List.map_nil, List.set, List.getElem?_cons_zero, List.getElem?_cons_succ, List.length_cons, List.length_nil, List.replicate, List.append_nil, List.nil_append, List.cons_append, ite_true, ite_false, Bool.false_eq_true, reduceCtorEq, if_true, if_false, seqK_nx, seqK_rt, seqK_bk, seqK_ct, finK_rt, finK_nx, e16, e2]
    -- less is shut
    obtain ⟨l, hl⟩ : ∃ l, l = c0.dropLast := ⟨_, rfl⟩
    have hless : slW (W.d (PyData.tuple (c0.map PyData.int))) none (some (-1)) = some (W.d (PyData.tuple (l.map PyData.int))) := by
      show some (W.d (PyData.tuple (cutD (c0.map PyData.int) none (some (-1))))) = _
      rw [cut_last, ← List.map_dropLast, hl]
    have hlc : ∀ x ∈ l, x ∈ c0 := fun x hx => by rw [hl] at hx; exact (List.dropLast_sublist c0).subset hx
    have sl : SetOk (n - 1) l := ⟨fun x hx => sc0.rng x (hlc x hx), by rw [hl]; exact sc0.asc.sublist (List.dropLast_sublist _), by rw [hl, List.length_dropLast]; have := sc0.few; omega⟩
    have e17b : applyF fs 17 [drW n ar [], tI l, tI t1] = .ret (tI (leadL ar (freeOf n l) t1)) := by rw [h17, goal_ok n0 n1 ha sl st1 fun x hx z => d10 x hx (hlc x z)]
    have hb : ∀ x ∈ D, x ∈ leadL ar (freeOf n l) t1 := fun x hx => by
      rw [hD, ← hfr, lead_mem (ar_up ha) (free_asc n c0)] at hx
      have hfs : ∀ y ∈ freeOf n c0, y ∈ freeOf n l := fun y hy => free_mem.mpr ⟨(free_mem.mp hy).1, fun z => (free_mem.mp hy).2 (hlc y z)⟩
      exact (lead_mem (ar_up ha) (free_asc n l) x).mpr ⟨hfs x hx.1, comes_mono hfs (fun _ z => z) hx.2⟩
    have hDl : D.length ≤ 10 := by rw [hD, ← hfr]; exact lead_len n1 ha
    simp only [tI] at e17b
    simp [v_v, v_non, v_bl, v_int, v_str, v_gl, v_fn, v_tup, v_lst, v_dnew, v_bin, v_neg, v_cmp, v_chain, v_isN, v_notN, v_bop, v_b1, v_b2, v_not, v_ite, v_ix, v_sl, v_call, v_callk, v_callv, v_bi, v_isi, v_comp, l_nil, l_cons, o_nil, o_cons, c_nil', c_cons', i_of', i_rng1', i_rng2', i_enum', i_zip', i_rev', s_nil', s_cons', t_asg, t_par, t_ret, t_retN, t_ite, t_for, t_ex, t_put, t_app, t_ext, t_brk, t_cnt, cmpK, iteK, notK, bopK, tupK, lstK, iteS, asgK, parK, escE, escL, escI, dem, dem1, getN, binW, addW, int2, b1W, lenW, tupleW, listW, intW, isiW, ixW, cmpW, wBool, wInt, isNone, asgE, asgT, asgTs, Tg.is, TgL.is, wipeE, fresh, isBox, datas, W.data?, opt_some, opt_none, M.bind_ret, M.bind_stuck, M.nox_ret, itOf, itEnum, itZip, itRev, ownAt, ownL, W.i, W.b, List.map_cons, List.map_nil, List.set, List.getElem?_cons_zero, List.getElem?_cons_succ, List.length_cons, List.length_nil, List.replicate, List.append_nil, List.nil_append, List.cons_append, ite_true, ite_false, Bool.false_eq_true, reduceCtorEq, if_true, if_false, seqK_nx, seqK_rt, seqK_bk, seqK_ct, finK_rt, finK_nx, hless]
    rw [compR_of (W.d ∘ PyData.int) (fun _ => none) (by omega) (by intro x hx; simp [stepC, v_v, v_non, v_bl, v_int, v_str, v_gl, v_fn, v_tup, v_lst, v_dnew, v_bin, v_neg, v_cmp, v_chain, v_isN, v_notN, v_bop, v_b1, v_b2, v_not, v_ite, v_ix, v_sl, v_call, v_callk, v_callv, v_bi, v_isi, v_comp, l_nil, l_cons, o_nil, o_cons, c_nil', c_cons', i_of', i_rng1', i_rng2', i_enum', i_zip', i_rev', s_nil', s_cons', t_asg, t_par, t_ret, t_retN, t_ite, t_for, t_ex, t_put, t_app, t_ext, t_brk, t_cnt, cmpK, iteK, notK, bopK, tupK, lstK, iteS, asgK, parK, escE, escL, escI, dem, dem1, getN, binW, addW, int2, b1W, lenW, tupleW, listW, intW, isiW, ixW, cmpW, wBool, wInt, isNone, asgE, asgT, asgTs, Tg.is, TgL.is, wipeE, fresh, isBox, datas, W.data?, opt_some, opt_none, M.bind_ret, M.bind_stuck, M.nox_ret, itOf, itEnum, itZip, itRev, ownAt, ownL, W.i, W.b, List.map_cons, List.map_nil, List.set, List.getElem?_cons_zero, List.getElem?_cons_succ, List.length_cons, List.length_nil, List.replicate, List.append_nil, List.nil_append, List.cons_append, ite_true, ite_false, Bool.false_eq_true, reduceCtorEq, if_true, if_false, seqK_nx, seqK_rt, seqK_bk, seqK_ct, finK_rt, finK_nx, e17b, hb x hx]), fm_none]
    simp [v_v, v_non, v_bl, v_int, v_str, v_gl, v_fn, v_tup, v_lst, v_dnew, v_bin, v_neg, v_cmp, v_chain, v_isN, v_notN, v_bop, v_b1, v_b2, v_not, v_ite, v_ix, v_sl, v_call, v_callk, v_callv, v_bi, v_isi, v_comp, l_nil, l_cons, o_nil, o_cons, c_nil', c_cons', i_of', i_rng1', i_rng2', i_enum', i_zip', i_rev', s_nil', s_cons', t_asg, t_par, t_ret, t_retN, t_ite, t_for, t_ex, t_put, t_app, t_ext, t_brk, t_cnt, cmpK, iteK, notK, bopK, tupK, lstK, iteS, asgK, parK, escE, escL, escI, dem, dem1, getN, binW, addW, int2, b1W, lenW, tupleW, listW, intW, isiW, ixW, cmpW, wBool, wInt, isNone, asgE, asgT, asgTs, Tg.is, TgL.is, wipeE, fresh, isBox, datas, W.data?, opt_some, opt_none, M.bind_ret, M.bind_stuck, M.nox_ret, itOf, itEnum, itZip, itRev, ownAt, ownL, W.i, W.b, List.map_cons, List.map_nil, List.set, List.getElem?_cons_zero, List.getElem?_cons_succ, List.length_cons, List.length_nil, List.replicate, List.append_nil, List.nil_append, List.cons_append, ite_true, ite_false, Bool.false_eq_true, reduceCtorEq, if_true, if_false, seqK_nx, seqK_rt, seqK_bk, seqK_ct, finK_rt, finK_nx, eqW_nil]
    -- more goals
    rw [comp_spots (fun k => decide (k = 1 ∨ k = 2)) hkl (by intro p hp; by_cases h : p.1 = 1 <;> by_cases h2 : p.1 = 2 <;> simp [stepC, v_v, v_non, v_bl, v_int, v_str, v_gl, v_fn, v_tup, v_lst, v_dnew, v_bin, v_neg, v_cmp, v_chain, v_isN, v_notN, v_bop, v_b1, v_b2, v_not, v_ite, v_ix, v_sl, v_call, v_callk, v_callv, v_bi, v_isi, v_comp, l_nil, l_cons, o_nil, o_cons, c_nil', c_cons', i_of', i_rng1', i_rng2', i_enum', i_zip', i_rev', s_nil', s_cons', t_asg, t_par, t_ret, t_retN, t_ite, t_for, t_ex, t_put, t_app, t_ext, t_brk, t_cnt, cmpK, iteK, notK, bopK, tupK, lstK, iteS, asgK, parK, escE, escL, escI, dem, dem1, getN, binW, addW, int2, b1W, lenW, tupleW, listW, intW, isiW, ixW, cmpW, wBool, wInt, isNone, asgE, asgT, asgTs, Tg.is, TgL.is, wipeE, fresh, isBox, datas, W.data?, opt_some, opt_none, M.bind_ret, M.bind_stuck, M.nox_ret, itOf, itEnum, itZip, itRev, ownAt, ownL, W.i, W.b, List.map_cons, List.map_nil, List.set, List.getElem?_cons_zero, List.getElem?_cons_succ, List.length_cons, List.length_nil, List.replicate, List.append_nil, List.nil_append, List.cons_append, ite_true, ite_false, Bool.false_eq_true, reduceCtorEq, if_true, if_false, seqK_nx, seqK_rt, seqK_bk, seqK_ct, finK_rt, finK_nx, in12, h, h2])]
    generalize hm2 : spots ks (fun k => decide (k = 1 ∨ k = 2)) = m2 at sm2 d20 s12
    have e17c : applyF fs 17 [drW n ar [], tI c0, tI m2] = .ret (tI (leadL ar (freeOf n c0) m2)) := by rw [h17, goal_ok n0 n1 ha sc0 sm2 d20]
    have hb2 : ∀ x ∈ D, x ∈ leadL ar (freeOf n c0) m2 := fun x hx => by
      rw [hD, ← hfr, lead_mem (ar_up ha) (free_asc n c0)] at hx
      exact (lead_mem (ar_up ha) (free_asc n c0) x).mpr ⟨hx.1, comes_mono (fun _ z => z) s12 hx.2⟩
    simp only [tI] at e17c
    simp [v_v, v_non, v_bl, v_int, v_str, v_gl, v_fn, v_tup, v_lst, v_dnew, v_bin, v_neg, v_cmp, v_chain, v_isN, v_notN, v_bop, v_b1, v_b2, v_not, v_ite, v_ix, v_sl, v_call, v_callk, v_callv, v_bi, v_isi, v_comp, l_nil, l_cons, o_nil, o_cons, c_nil', c_cons', i_of', i_rng1', i_rng2', i_enum', i_zip', i_rev', s_nil', s_cons', t_asg, t_par, t_ret, t_retN, t_ite, t_for, t_ex, t_put, t_app, t_ext, t_brk, t_cnt, cmpK, iteK, notK, bopK, tupK, lstK, iteS, asgK, parK, escE, escL, escI, dem, dem1, getN, binW, addW, int2, b1W, lenW, tupleW, listW, intW, isiW, ixW, cmpW, wBool, wInt, isNone, asgE, asgT, asgTs, Tg.is, TgL.is, wipeE, fresh, isBox, datas, W.data?, opt_some, opt_none, M.bind_ret, M.bind_stuck, M.nox_ret, itOf, itEnum, itZip, itRev, ownAt, ownL, W.i, W.b, List.map_cons, List.map_nil, List.set, List.getElem?_cons_zero, List.getElem?_cons_succ, List.length_cons, List.length_nil, List.replicate, List.append_nil, List.nil_append, List.cons_append, ite_true, ite_false, Bool.false_eq_true, reduceCtorEq, if_true, if_false, seqK_nx, seqK_rt, seqK_bk, seqK_ct, finK_rt, finK_nx]
    rw [compR_of (W.d ∘ PyData.int) (fun _ => none) (by omega) (by intro x hx; simp [stepC, v_v, v_non, v_bl, v_int, v_str, v_gl, v_fn, v_tup, v_lst, v_dnew, v_bin, v_neg, v_cmp, v_chain, v_isN, v_notN, v_bop, v_b1, v_b2, v_not, v_ite, v_ix, v_sl, v_call, v_callk, v_callv, v_bi, v_isi, v_comp, l_nil, l_cons, o_nil, o_cons, c_nil', c_cons', i_of', i_rng1', i_rng2', i_enum', i_zip', i_rev', s_nil', s_cons', t_asg, t_par, t_ret, t_retN, t_ite, t_for, t_ex, t_put, t_app, t_ext, t_brk, t_cnt, cmpK, iteK, notK, bopK, tupK, lstK, iteS, asgK, parK, escE, escL, escI, dem, dem1, getN, binW, addW, int2, b1W, lenW, tupleW, listW, intW, isiW, ixW, cmpW, wBool, wInt, isNone, asgE, asgT, asgTs, Tg.is, TgL.is, wipeE, fresh, isBox, datas, W.data?, opt_some, opt_none, M.bind_ret, M.bind_stuck, M.nox_ret, itOf, itEnum, itZip, itRev, ownAt, ownL, W.i, W.b, List.map_cons, List.map_nil, List.set, List.getElem?_cons_zero, List.getElem?_cons_succ, List.length_cons, List.length_nil, List.replicate, List.append_nil, List.nil_append, List.cons_append, ite_true, ite_false, Bool.false_eq_true, reduceCtorEq, if_true, if_false, seqK_nx, seqK_rt, seqK_bk, seqK_ct, finK_rt, finK_nx, e17c, hb2 x hx]), fm_none]
    simp [v_v, v_non, v_bl, v_int, v_str, v_gl, v_fn, v_tup, v_lst, v_dnew, v_bin, v_neg, v_cmp, v_chain, v_isN, v_notN, v_bop, v_b1, v_b2, v_not, v_ite, v_ix, v_sl, v_call, v_callk, v_callv, v_bi, v_isi, v_comp, l_nil, l_cons, o_nil, o_cons, c_nil', c_cons', i_of', i_rng1', i_rng2', i_enum', i_zip', i_rev', s_nil', s_cons', t_asg, t_par, t_ret, t_retN, t_ite, t_for, t_ex, t_put, t_app, t_ext, t_brk, t_cnt, cmpK, iteK, notK, bopK, tupK, lstK, iteS, asgK, parK, escE, escL, escI, dem, dem1, getN, binW, addW, int2, b1W, lenW, tupleW, listW, intW, isiW, ixW, cmpW, wBool, wInt, isNone, asgE, asgT, asgTs, Tg.is, TgL.is, wipeE, fresh, isBox, datas, W.data?, opt_some, opt_none, M.bind_ret, M.bind_stuck, M.nox_ret, itOf, itEnum, itZip, itRev, ownAt, ownL, W.i, W.b, List.map_cons, List.map_nil, List.set, List.getElem?_cons_zero, List.getElem?_cons_succ, List.length_cons, List.length_nil, List.replicate, List.append_nil, List.nil_append, List.cons_append, ite_true, ite_false, Bool.false_eq_true, reduceCtorEq, if_true, if_false, seqK_nx, seqK_rt, seqK_bk, seqK_ct, finK_rt, finK_nx, eqW_nil, a0, a0', hr]
    -- all others shut
    rw [compR_of (W.d ∘ PyData.int) (fun x => if decide (x ∉ t1) = true then some (.int x) else none) (by omega) (by intro x hx; by_cases h : x ∈ t1 <;> simp [stepC, v_v, v_non, v_bl, v_int, v_str, v_gl, v_fn, v_tup, v_lst, v_dnew, v_bin, v_neg, v_cmp, v_chain, v_isN, v_notN, v_bop, v_b1, v_b2, v_not, v_ite, v_ix, v_sl, v_call, v_callk, v_callv, v_bi, v_isi, v_comp, l_nil, l_cons, o_nil, o_cons, c_nil', c_cons', i_of', i_rng1', i_rng2', i_enum', i_zip', i_rev', s_nil', s_cons', t_asg, t_par, t_ret, t_retN, t_ite, t_for, t_ex, t_put, t_app, t_ext, t_brk, t_cnt, cmpK, iteK, notK, bopK, tupK, lstK, iteS, asgK, parK, escE, escL, escI, dem, dem1, getN, binW, addW, int2, b1W, lenW, tupleW, listW, intW, isiW, ixW, cmpW, wBool, wInt, isNone, asgE, asgT, asgTs, Tg.is, TgL.is, wipeE, fresh, isBox, datas, W.data?, opt_some, opt_none, M.bind_ret, M.bind_stuck, M.nox_ret, itOf, itEnum, itZip, itRev, ownAt, ownL, W.i, W.b, List.map_cons, List.map_nil, List.set, List.getElem?_cons_zero, List.getElem?_cons_succ, List.length_cons, List.length_nil, List.replicate, List.append_nil, List.nil_append, List.cons_append, ite_true, ite_false, Bool.false_eq_true, reduceCtorEq, if_true, if_false, seqK_nx, seqK_rt, seqK_bk, seqK_ct, finK_rt, finK_nx, h]), filt_ints]
    generalize ho2 : (upto n).filter (fun x => decide (x ∉ t1)) = oo
    have soo : SetOk (n - 1) oo := by rw [← ho2]; exact filter_set n1 _
    have e17d : applyF fs 17 [drW n ar [], tI oo, tI t1] = .ret (tI t1) := by
      rw [h17, goal_ok n0 n1 ha soo st1 (fun x hx z => by rw [← ho2] at z; have := (List.mem_filter.mp z).2; simp at this; exact this hx), ← ho2, lead_self (ar_up ha) st1.asc fun x hx => by have := st1.rng x hx; omega]
    have e17e : applyF fs 17 [drW n ar [], tI c0, tI []] = .ret (tI []) := by
      rw [h17, goal_ok n0 n1 ha sc0 ⟨fun x hx => by simp at hx, .nil, by simp⟩ (fun x hx => by simp at hx), lead_nil (ar_up ha) (free_asc n c0)]
    have ht1l : t1.length ≤ 10 := asc_len n1 st1.asc fun x hx => by have := st1.rng x hx; omega
    have okL : okS (.list [.tuple (t1.map PyData.int), .tuple []]) = true := by
      have g : ∀ x ∈ t1, 0 ≤ x ∧ x ≤ 1000 := fun x hx => by have := st1.rng x hx; omega
      simp [okS, PyData.showable, PyData.showableAll, PyData.leavesShort, PyData.leavesShortAll, PyData.bulk, PyData.bulkAll, PyData.depth, PyData.depthAll, showable_ints g, short_ints g, bulk_ints, depth_ints]
      omega
    have e2b : applyF fs 2 [.d (.list [.tuple (t1.map PyData.int), .tuple []]), .d (.list [.tuple (t1.map PyData.int), .tuple []])] = .ret (.b true) := by rw [h2]; exact like_same okL
    simp only [tI, List.map_nil, W.b] at e17d e17e e2b
    simp [v_v, v_non, v_bl, v_int, v_str, v_gl, v_fn, v_tup, v_lst, v_dnew, v_bin, v_neg, v_cmp, v_chain, v_isN, v_notN, v_bop, v_b1, v_b2, v_not, v_ite, v_ix, v_sl, v_call, v_callk, v_callv, v_bi, v_isi, v_comp, l_nil, l_cons, o_nil, o_cons, c_nil', c_cons', i_of', i_rng1', i_rng2', i_enum', i_zip', i_rev', s_nil', s_cons', t_asg, t_par, t_ret, t_retN, t_ite, t_for, t_ex, t_put, t_app, t_ext, t_brk, t_cnt, cmpK, iteK, notK, bopK, tupK, lstK, iteS, asgK, parK, escE, escL, escI, dem, dem1, getN, binW, addW, int2, b1W, lenW, tupleW, listW, intW, isiW, ixW, cmpW, wBool, wInt, isNone, asgE, asgT, asgTs, Tg.is, TgL.is, wipeE, fresh, isBox, datas, W.data?, opt_some, opt_none, M.bind_ret, M.bind_stuck, M.nox_ret, itOf, itEnum, itZip, itRev, ownAt, ownL, W.i, W.b, List.map_cons, List.map_nil, List.set, List.getElem?_cons_zero, List.getElem?_cons_succ, List.length_cons, List.length_nil, List.replicate, List.append_nil, List.nil_append, List.cons_append, ite_true, ite_false, Bool.false_eq_true, reduceCtorEq, if_true, if_false, seqK_nx, seqK_rt, seqK_bk, seqK_ct, finK_rt, finK_nx, e17d, e17e, e2b]
/-! ### law -/
theorem loop_ok {fs : Fns} (h21 : ∀ ws, applyF fs 21 ws = F21 ws) (r : Env) (hr0 : ∃ c2, r = [C.no, C.sh W.tok, c2, C.no, C.no]) : Ok (120 * 6) (forR fs gss 200 (.n 2) (.cons (.ite (.not (.call 21 (.cons (.v 1) .nil))) (.cons (.ret (.bl false)) .nil) .nil) .nil) r ((upto 6).map (W.d ∘ PyData.int))) (fun q => q.1 = .nx ∧ ∃ c2, q.2 = [C.no, C.sh W.tok, c2, C.no, C.no]) := by
  have h := forR_ok (fs := fs) (gs := gss) (fu := 200) (tg := .n 2) (body := .cons (.ite (.not (.call 21 (.cons (.v 1) .nil))) (.cons (.ret (.bl false)) .nil) .nil) .nil) (ws := (upto 6).map (W.d ∘ PyData.int)) 120
    (fun _ r => ∃ c2, r = [C.no, C.sh W.tok, c2, C.no, C.no]) (r := r) hr0 (fun i w r _ ⟨c2, hr⟩ => by
      subst hr
      refine ⟨[C.no, C.sh W.tok, C.sh w, C.no, C.no], rfl, ?_⟩
      have e : ∀ w2, IsT w2 → Ok 0 ((M.ret w2).bind fun x => (opt (wBool x)).bind fun c => (.ret (.b (!c)) : M W)) (fun w => w = W.b false) := fun w2 ⟨z⟩ => by subst z; exact Ok.ret rfl
      generalize hPP : (fun q : Fl × Env => q.1 = .nx ∧ ∃ c2, q.2 = [C.no, C.sh W.tok, c2, C.no, C.no]) = PP
      simp [v_v, v_non, v_bl, v_int, v_str, v_gl, v_fn, v_tup, v_lst, v_dnew, v_bin, v_neg, v_cmp, v_chain, v_isN, v_notN, v_bop, v_b1, v_b2, v_not, v_ite, v_ix, v_sl, v_call, v_callk, v_callv, v_bi, v_isi, v_comp, l_nil, l_cons, o_nil, o_cons, c_nil', c_cons', i_of', i_rng1', i_rng2', i_enum', i_zip', i_rev', s_nil', s_cons', t_asg, t_par, t_ret, t_retN, t_ite, t_for, t_ex, t_put, t_app, t_ext, t_brk, t_cnt, cmpK, iteK, notK, bopK, tupK, lstK, iteS, asgK, parK, escE, escL, escI, dem, dem1, getN, binW, addW, int2, b1W, lenW, tupleW, listW, intW, isiW, ixW, cmpW, wBool, wInt, isNone, asgE, asgT, asgTs, Tg.is, TgL.is, wipeE, fresh, isBox, datas, W.data?, opt_some, opt_none, M.bind_ret, M.bind_stuck, M.nox_ret, itOf, itEnum, itZip, itRev, ownAt, ownL, W.i, W.b, List.map_cons, List.map_nil, List.set, List.getElem?_cons_zero, List.getElem?_cons_succ, List.length_cons, List.length_nil, List.replicate, List.append_nil, List.nil_append, List.cons_append, ite_true, ite_false, Bool.false_eq_true, reduceCtorEq, if_true, if_false, seqK_nx, seqK_rt, seqK_bk, seqK_ct, finK_rt, finK_nx]
      simp only [M.bind_assoc]
      rw [h21]
      refine (Ok.bind (b1 := 120) (b2 := 0) right_ok fun w2 hw => ?_).imp (by omega) (fun _ z => z)
      obtain ⟨rfl⟩ := hw
      exact Ok.of (a := (Fl.nx, [C.no, C.sh W.tok, C.sh w, C.no, C.no])) (by simp [v_v, v_non, v_bl, v_int, v_str, v_gl, v_fn, v_tup, v_lst, v_dnew, v_bin, v_neg, v_cmp, v_chain, v_isN, v_notN, v_bop, v_b1, v_b2, v_not, v_ite, v_ix, v_sl, v_call, v_callk, v_callv, v_bi, v_isi, v_comp, l_nil, l_cons, o_nil, o_cons, c_nil', c_cons', i_of', i_rng1', i_rng2', i_enum', i_zip', i_rev', s_nil', s_cons', t_asg, t_par, t_ret, t_retN, t_ite, t_for, t_ex, t_put, t_app, t_ext, t_brk, t_cnt, cmpK, iteK, notK, bopK, tupK, lstK, iteS, asgK, parK, escE, escL, escI, dem, dem1, getN, binW, addW, int2, b1W, lenW, tupleW, listW, intW, isiW, ixW, cmpW, wBool, wInt, isNone, asgE, asgT, asgTs, Tg.is, TgL.is, wipeE, fresh, isBox, datas, W.data?, opt_some, opt_none, M.bind_ret, M.bind_stuck, M.nox_ret, itOf, itEnum, itZip, itRev, ownAt, ownL, W.i, W.b, List.map_cons, List.map_nil, List.set, List.getElem?_cons_zero, List.getElem?_cons_succ, List.length_cons, List.length_nil, List.replicate, List.append_nil, List.nil_append, List.cons_append, ite_true, ite_false, Bool.false_eq_true, reduceCtorEq, if_true, if_false, seqK_nx, seqK_rt, seqK_bk, seqK_ct, finK_rt, finK_nx]) (by rw [← hPP]; exact ⟨rfl, _, rfl⟩))
  have hl : ((upto 6).map (W.d ∘ PyData.int)).length = 6 := rfl
  rw [hl] at h
  exact h
def tailS : SL := match bL with
  | .cons _ ss => ss
  | .nil => .nil
theorem tail_ok (c2 : C) : ∃ r', seqK fs22 gss 200 tailS (.nx, [C.no, C.sh W.tok, c2, C.no, C.no]) = .ret (.rt (W.b true), r') := ⟨_, rfl⟩
theorem law_true : (evSL fs22 gss 200 bL ([.no, .sh .tok] ++ List.replicate (5 - 2) .no)).wp 0 (fun q _ => q.1 = .rt (W.b true)) (fun _ _ => False) := by
  have h21 : ∀ ws, applyF fs22 21 ws = F21 ws := fun ws => rfl
  have hr := itRng0 (n := 6) (by omega) (by omega)
  have key : Ok 720 (evSL fs22 gss 200 bL [C.no, C.sh W.tok, C.no, C.no, C.no]) (fun q => q.1 = .rt (W.b true)) := by
    unfold bL
    rw [s_cons', t_for]
    have e0 : evI fs22 gss (dem [C.no, C.sh W.tok, C.no, C.no, C.no] (escI (.rng1 (.int 6)))) (.rng1 (.int 6)) = .ret ((upto 6).map (W.d ∘ PyData.int)) := by
      simp [v_v, v_non, v_bl, v_int, v_str, v_gl, v_fn, v_tup, v_lst, v_dnew, v_bin, v_neg, v_cmp, v_chain, v_isN, v_notN, v_bop, v_b1, v_b2, v_not, v_ite, v_ix, v_sl, v_call, v_callk, v_callv, v_bi, v_isi, v_comp, l_nil, l_cons, o_nil, o_cons, c_nil', c_cons', i_of', i_rng1', i_rng2', i_enum', i_zip', i_rev', s_nil', s_cons', t_asg, t_par, t_ret, t_retN, t_ite, t_for, t_ex, t_put, t_app, t_ext, t_brk, t_cnt, cmpK, iteK, notK, bopK, tupK, lstK, iteS, asgK, parK, escE, escL, escI, dem, dem1, getN, binW, addW, int2, b1W, lenW, tupleW, listW, intW, isiW, ixW, cmpW, wBool, wInt, isNone, asgE, asgT, asgTs, Tg.is, TgL.is, wipeE, fresh, isBox, datas, W.data?, opt_some, opt_none, M.bind_ret, M.bind_stuck, M.nox_ret, itOf, itEnum, itZip, itRev, ownAt, ownL, W.i, W.b, List.map_cons, List.map_nil, List.set, List.getElem?_cons_zero, List.getElem?_cons_succ, List.length_cons, List.length_nil, List.replicate, List.append_nil, List.nil_append, List.cons_append, ite_true, ite_false, Bool.false_eq_true, reduceCtorEq, if_true, if_false, seqK_nx, seqK_rt, seqK_bk, seqK_ct, finK_rt, finK_nx, hr]
    rw [e0, M.bind_ret]
    refine (Ok.bind (b1 := 720) (b2 := 0) (loop_ok h21 _ ⟨_, rfl⟩) fun q hq => ?_).imp (by omega) (fun _ z => z)
    obtain ⟨fl, r⟩ := q
    obtain ⟨e1, c2, e2⟩ := hq
    have e1 : fl = .nx := e1
    have e2 : r = _ := e2
    subst e1
    subst e2
    obtain ⟨r', hq⟩ := tail_ok c2
    exact Ok.of hq rfl
  exact M.wp_mono (fun q n h => h.2) (fun _ _ z => z) (key 0 (by omega))
end PDK03
end DS

set_option Elab.async false
set_option linter.all false
open PySem PySem.W PyProof.Rows
set_option maxRecDepth 100000 in
set_option maxHeartbeats 0 in
theorem PySem.Challenge.cw_deedseen_k03_whole_goals_holds : PySem.Challenge.rw_deedseen_k03_whole_goals.Holds := by
  w_on; o_law; k_head; (case hw => w_witness2)
  k_fill
  refine DS.row_of (l := PySem.Challenge.rw_deedseen_k03_whole_goals) (n := 63) (k := 43) (x := "script") (sp := fun w => DS.spLaw _ DK03.fs22 DK03.gss 200 5 DK03.bL) rfl (by decide) rfl ⟨rfl, by decide, by decide⟩ (fun w h Y => PySem.W.kIn_of Y) ?F
    (fun _ _ a ns hl hS => ⟨a, ns, rfl, hS, Nat.le_trans hl (by decide), fun _ => rfl, DS.PDK03.law_true⟩)
  case F =>
    intro w mg fa h KX G hmg
    refine' DK03.all_mk KX G hmg ?qda0 ?qda1 ?qda2 ?qda3 ?qda4 ?qda5 ?qda6 ?qda7 ?qda8 ?qda9 ?qda10 ?qda11 ?qda12 ?qda13 ?qda14 ?qda15 ?qda16 ?qda17 ?qda18 ?qda19 ?qda20 ?qda21 ?qdaB ?qdaL ?qdg0 ?qdg1 ?qdz
    (case qda0 => exact ⟨⟨_, _, _, _, _, _, _, _, _, by k_is, by k_is, by k_is, by k_is⟩⟩); (case qda1 => exact ⟨⟨_, _, _, _, _, _, _, _, _, by k_is, by k_is, by k_is, by k_is⟩⟩); (case qda2 => exact ⟨⟨_, _, _, _, _, _, _, _, _, by k_is, by k_is, by k_is, by k_is⟩⟩); (case qda3 => exact ⟨⟨_, _, _, _, _, _, _, _, _, by k_is, by k_is, by k_is, by k_is⟩⟩); (case qda4 => exact ⟨⟨_, _, _, _, _, _, _, _, _, by k_is, by k_is, by k_is, by k_is⟩⟩); (case qda5 => exact ⟨⟨_, _, _, _, _, _, _, _, _, by k_is, by k_is, by k_is, by k_is⟩⟩); (case qda6 => exact ⟨⟨_, _, _, _, _, _, _, _, _, by k_is, by k_is, by k_is, by k_is⟩⟩); (case qda7 => exact ⟨⟨_, _, _, _, _, _, _, _, _, by k_is, by k_is, by k_is, by k_is⟩⟩); (case qda8 => exact ⟨⟨_, _, _, _, _, _, _, _, _, by k_is, by k_is, by k_is, by k_is⟩⟩); (case qda9 => exact ⟨⟨_, _, _, _, _, _, _, _, _, by k_is, by k_is, by k_is, by k_is⟩⟩); (case qda10 => exact ⟨⟨_, _, _, _, _, _, _, _, _, by k_is, by k_is, by k_is, by k_is⟩⟩); (case qda11 => exact ⟨⟨_, _, _, _, _, _, _, _, _, by k_is, by k_is, by k_is, by k_is⟩⟩); (case qda12 => exact ⟨⟨_, _, _, _, _, _, _, _, _, by k_is, by k_is, by k_is, by k_is⟩⟩); (case qda13 => exact ⟨⟨_, _, _, _, _, _, _, _, _, by k_is, by k_is, by k_is, by k_is⟩⟩); (case qda14 => exact ⟨⟨_, _, _, _, _, _, _, _, _, by k_is, by k_is, by k_is, by k_is⟩⟩); (case qda15 => exact ⟨⟨_, _, _, _, _, _, _, _, _, by k_is, by k_is, by k_is, by k_is⟩⟩); (case qda16 => exact ⟨⟨_, _, _, _, _, _, _, _, _, by k_is, by k_is, by k_is, by k_is⟩⟩); (case qda17 => exact ⟨⟨_, _, _, _, _, _, _, _, _, by k_is, by k_is, by k_is, by k_is⟩⟩); (case qda18 => exact ⟨⟨_, _, _, _, _, _, _, _, _, by k_is, by k_is, by k_is, by k_is⟩⟩); (case qda19 => exact ⟨⟨_, _, _, _, _, _, _, _, _, by k_is, by k_is, by k_is, by k_is⟩⟩); (case qda20 => exact ⟨⟨_, _, _, _, _, _, _, _, _, by k_is, by k_is, by k_is, by k_is⟩⟩); (case qda21 => exact ⟨⟨_, _, _, _, _, _, _, _, _, by k_is, by k_is, by k_is, by k_is⟩⟩); (case qdaB => exact ⟨⟨_, _, _, _, _, _, _, _, _, by k_is, by k_is, by k_is, by k_is⟩⟩); (case qdaL => exact ⟨⟨_, _, _, _, _, _, _, _, _, by k_is, by k_is, by k_is, by k_is⟩⟩); (case qdg0 => k_is); (case qdg1 => k_is)
    case qdz =>
      intro x hx
      simp only [DS.bnames, List.mem_cons, List.not_mem_nil, or_false] at hx
      rcases hx with rfl | rfl | rfl | rfl | rfl | rfl | rfl | rfl | rfl | rfl | rfl | rfl | rfl | rfl | rfl | rfl | rfl <;> k_is

