import PyProof.Rows.All
import Wide.All
import OpenK.AllK
import Wide.FinOn
import HandS.ForMost
import HandS.Deep
import HandS.TupAny
import HandS.Zip
import HandS.IsInst
import HandS.Wide
import HandS.Defaults
import HandS.Flow
import HandS.Style
import HandS.More
import HandS.Conv
import HandS.RaiseMore
import KE.GoesEnum
import HandS.HeadEnd
import HandS.HeadHook3
import KE.KStateDown
import HandS.Base
import HandS.Call
import HandS.Ends
import HandS.Words
import HandS.WordsExc
import HandS.Head0
import HandS.Head1
import HandS.Head2
import HandS.HeadHook1
import HandS.HeadHook2
import HandS.MakeKwOnly
import PySem.Challenge.RW_begunanew_k05_whole_rows_in_and_out
set_option Elab.async false
set_option linter.all false
set_option maxRecDepth 100000
set_option maxHeartbeats 0
/-! A small language with data as values, its reckoning, and how it stands over the hand layer. -/
namespace Qv
open PySem PySem.Spec PyProof.Rows L2
abbrev D := PyData
/-- the state of a feed -/
structure Fd where
  cells : List Int
  spot : Int
  left : Int
  turn : Int
inductive C where
  | emp
  | val (d : D)
  | own (ds : List D)
  | feed
abbrev Rho := List C
abbrev M (α : Type) := Fd → Option (α × Fd)
def ret {α : Type} (a : α) : M α := fun s => some (a, s)
def bad {α : Type} : M α := fun _ => none
def mb {α β : Type} (x : M α) (f : α → M β) : M β := fun s => match x s with
  | some (a, s') => f a s'
  | none => none
def ofO {α : Type} (o : Option α) : M α := fun s => match o with
  | some a => some (a, s)
  | none => none
inductive Bop where
  | add | sub | mul | fdiv | mod | pow
  deriving DecidableEq
inductive Cop where
  | eq | ne | lt | le | gt | ge | isin | notin
  deriving DecidableEq
/-- classes that are asked -/
inductive Ty where
  | int | bool | str | tuple | list
  deriving DecidableEq
/-- built-in calls on values -/
inductive Bi where
  | len | all | tuple | list | int | str | max | sorted | repr
  deriving DecidableEq
/-- methods on values -/
inductive Mth where
  | index | split | join
  deriving DecidableEq
/-- keys of a feed -/
inductive Fk where
  | cells | spot | left | turn
  deriving DecidableEq
/-- targets -/
inductive Tg where
  | nm (i : Nat)
  | tp (is : List Nat)
mutual
inductive E where
  | v (i : Nat)
  | c (d : D)
  | g (x : Str)
  | tup (es : Es)
  | lst (es : Es)
  | bin (o : Bop) (a b : E)
  | neg (a : E)
  | cmp (o : Cop) (a b : E)
  | chn (o o' : Cop) (a b c : E)
  | isN (a : E)
  | ntN (a : E)
  | and (es : Es)
  | or (es : Es)
  | not (a : E)
  | ite (c a b : E)
  | ix (a b : E)
  | sl (a : E) (lo hi : Eo)
  | call (f : Str) (es : Es)
  | ckw (f : Str) (es : Es) (k : Str) (e : E)
  | bi (b : Bi) (es : Es)
  | isi (a : E) (t : Ty)
  | inK (neg : Bool) (a : E) (x : Str)
  | getK (x : Str) (a : E)
  | mth (m : Mth) (o : E) (es : Es)
  | comp (elt : E) (t : Tg) (it : It) (c : Eo) (own : List (Str × Nat))
  | fg (i : Nat) (k : Fk)
  | lrg (a : E)
inductive Es where
  | nil
  | cons (e : E) (es : Es)
inductive Eo where
  | non
  | som (e : E)
inductive It where
  | dat (e : E)
  | zip (a b : E)
  | enm (a : E)
  | rng (a : E)
  | rng2 (a b : E)
end
/-! ### operations on data -/
def lenOk (n : Nat) : Bool := decide (n ≤ 1000000)
def bop : Bop → D → D → Option D
  | .add, .int i, .int j => some (.int (i + j))
  | .add, .str x, .str y => if lenOk (x.length + y.length) then some (.str (x ++ y)) else none
  | .add, .tuple x, .tuple y => if lenOk (x.length + y.length) then some (.tuple (x ++ y)) else none
  | .add, .list x, .list y => if lenOk (x.length + y.length) then some (.list (x ++ y)) else none
  | .sub, .int i, .int j => some (.int (i - j))
  | .mul, .int i, .int j => if decide (-(2 ^ 64) < i ∧ i < 2 ^ 64) || decide (-(2 ^ 64) < j ∧ j < 2 ^ 64) then some (.int (i * j)) else none
  | .mul, .list xs, .int k => if decide (0 ≤ k ∧ k < 1000) && lenOk (xs.length * k.toNat) then some (.list (List.replicate k.toNat xs).flatten) else none
  | .fdiv, .int i, .int j => if decide (0 < j ∧ j < 1073741824) then some (.int (i / j)) else none
  | .mod, .int i, .int j => if decide (0 < j) then some (.int (i % j)) else none
  | .pow, .int i, .int j => if decide (0 ≤ j ∧ j ≤ 1000000 ∧ i.natAbs < 2 ^ 64) then some (.int (i ^ j.toNat)) else none
  | _, _, _ => none
def flat : D → Bool
  | .none => true
  | .bool _ => true
  | .int _ => true
  | .str _ => true
  | _ => false
/-- == of flat values -/
def eqF : D → D → Bool
  | .none, .none => true
  | .bool a, .bool b => a == b
  | .bool a, .int b => (if a then 1 else 0) == b
  | .int a, .bool b => a == (if b then 1 else 0)
  | .int a, .int b => a == b
  | .str a, .str b => a == b
  | _, _ => false
def eqD : D → D → Option Bool
  | .str x, .str y => some (decide (x = y))
  | a, b => if SeqAt.shaped a && SeqAt.shaped b then some (PyData.eqv a b) else none
def ltS (x y : Str) : Bool := decide (x.cps.toList < y.cps.toList)
def inD (a : D) : D → Option Bool
  | .list xs => if flat a && xs.all flat then some (xs.any fun y => eqF y a) else none
  | .tuple xs => if flat a && xs.all flat then some (xs.any fun y => eqF y a) else none
  | .str z => match a with
    | .str x => if x.cps.size == 1 then some (decide (x.cps.getD 0 0 ∈ z.cps.toList)) else none
    | _ => none
  | _ => none
def cop : Cop → D → D → Option Bool
  | .eq, a, b => eqD a b
  | .ne, a, b => (eqD a b).map (!·)
  | .lt, .int i, .int j => some (decide (i < j))
  | .le, .int i, .int j => some (decide (i ≤ j))
  | .gt, .int i, .int j => some (decide (j < i))
  | .ge, .int i, .int j => some (decide (j ≤ i))
  | .lt, .str x, .str y => some (ltS x y)
  | .le, .str x, .str y => some (!ltS y x)
  | .gt, .str x, .str y => some (ltS y x)
  | .ge, .str x, .str y => some (!ltS x y)
  | .isin, a, b => inD a b
  | .notin, a, b => (inD a b).map (!·)
  | _, _, _ => none
def ixD : D → D → Option D
  | .list xs, .int i => atI xs i
  | .tuple xs, .int i => atI xs i
  | .str z, .int i => if lenOk z.length then (atI z.cps.toList i).map fun c => .str ⟨#[c]⟩ else none
  | _, _ => none
def cut {α : Type} (xs : List α) (lo hi : Option Int) : List α := (xs.drop (HT.sIx xs.length 0 lo)).take (HT.sIx xs.length xs.length hi - HT.sIx xs.length 0 lo)
def slD : D → Option Int → Option Int → Option D
  | .list xs, lo, hi => some (.list (cut xs lo hi))
  | .tuple xs, lo, hi => some (.tuple (cut xs lo hi))
  | .str z, lo, hi => if lenOk z.length then some (.str (cutS z lo hi)) else none
  | _, _, _ => none
def tyD : D → Ty → Bool
  | .int _, .int => true
  | .bool _, .int => true
  | .bool _, .bool => true
  | .str _, .str => true
  | .tuple _, .tuple => true
  | .list _, .list => true
  | _, _ => false
def boolsOf : List D → Option (List Bool)
  | [] => some []
  | .bool b :: r => (boolsOf r).map (b :: ·)
  | _ => none
def intsOf : List D → Option (List Int)
  | [] => some []
  | .int b :: r => (intsOf r).map (b :: ·)
  | _ => none
def strsOf : List D → Option (List Str)
  | [] => some []
  | .str b :: r => (strsOf r).map (b :: ·)
  | _ => none
/-- texts in order -/
def insS (x : Str) : List Str → List Str
  | [] => [x]
  | y :: r => if ltS y x then y :: insS x r else x :: y :: r
def sortS : List Str → List Str
  | [] => []
  | x :: r => insS x (sortS r)
/-- what may be shown -/
def reprOk (d : D) : Bool := (match d with
  | .list _ => true
  | .tuple _ => true
  | _ => false) && (d.showable && (!d.hasDict && (decide (d.depth ≤ 60) && decide (d.shown.length ≤ 16000000))))
def bi : Bi → List D → Option D
  | .len, [.list xs] => some (.int xs.length)
  | .len, [.tuple xs] => some (.int xs.length)
  | .len, [.str z] => if lenOk z.length then some (.int z.length) else none
  | .all, [.list xs] => (boolsOf xs).map fun bs => .bool (bs.all id)
  | .tuple, [.list xs] => some (.tuple xs)
  | .tuple, [.tuple xs] => some (.tuple xs)
  | .list, [.list xs] => some (.list xs)
  | .list, [.tuple xs] => some (.list xs)
  | .int, [.int i] => some (.int i)
  | .int, [.bool b] => some (.int (if b then 1 else 0))
  | .str, [.int i] => if decide (i.natAbs.log2 < 1920) then some (.str (toString i)) else none
  | .str, [.str x] => some (.str x)
  | .sorted, [.list xs] => match strsOf xs with
    | some zs => if decide (zs.length < 64) then some (.list ((sortS zs).map .str)) else none
    | none => none
  | .repr, [d] => if reprOk d then some (.str d.shown) else none
  | _, _ => none
/-- the first place of an item -/
def idxF (a : D) : List D → Option Nat
  | [] => none
  | y :: r => if eqF y a then some 0 else (idxF a r).map (· + 1)
def mth : Mth → D → List D → Option D
  | .index, .list xs, [a] => if flat a && xs.all flat then (idxF a xs).map fun j => .int (j : Nat) else none
  | _, _, _ => none

/-! ### reckoning -/
/-- what a text knows: constants, tables, defs (by name and number of arguments) -/
structure Gam where
  con : Str → Option D
  tab : Str → Option (List (Str × D))
  fn : Str → Nat → Option (List C → M D)
  fk : Str → Str → Nat → Option (List C → M D)
def strItems (z : Str) : List D := z.cps.toList.map fun c => .str ⟨#[c]⟩
def itemsOf : D → Option (List D)
  | .list xs => some xs
  | .tuple xs => some xs
  | .str z => some (strItems z)
  | _ => none
def setAll : List Nat → List D → Rho → Option Rho
  | [], [], ρ => some ρ
  | i :: is, d :: ds, ρ => setAll is ds (ρ.set i (.val d))
  | _, _, _ => none
def bindT : Tg → D → Rho → Option Rho
  | .nm i, d, ρ => some (ρ.set i (.val d))
  | .tp is, .tuple ds, ρ => setAll is ds ρ
  | _, _, _ => none
def wipeR (ρ : Rho) : List Nat → Rho
  | [] => ρ
  | v :: vs => (wipeR ρ vs).set v .emp
def enumFrom (k : Int) : List D → List D
  | [] => []
  | x :: r => .tuple [.int k, x] :: enumFrom (k + 1) r
def zipD : List D → List D → List D
  | x :: xs, y :: ys => .tuple [x, y] :: zipD xs ys
  | _, _ => []
def rngL (lo : Int) : Nat → List D
  | 0 => []
  | n + 1 => .int lo :: rngL (lo + 1) n
def rngOk (i : Int) : Bool := decide (-1000000 ≤ i ∧ i ≤ 1000000)
/-- a comprehension's turns -/
def compL (f : D → M (Option D)) : List D → M (List D)
  | [] => ret []
  | x :: xs => mb (f x) fun o => mb (compL f xs) fun ys => ret (match o with
    | some y => y :: ys
    | none => ys)
def fget (s : Fd) : Fk → D
  | .cells => .list (s.cells.map .int)
  | .spot => .int s.spot
  | .left => .int s.left
  | .turn => .int s.turn
def asB : D → Option Bool
  | .bool b => some b
  | _ => none
def asI : D → Option Int
  | .int i => some i
  | _ => none
def isNone : D → Bool
  | .none => true
  | _ => false
def looK (x : Str) : List (Str × D) → Option D
  | [] => none
  | (y, d) :: r => if y = x then some d else looK x r
def isFeed : E → Rho → Bool
  | .v i, ρ => (match ρ[i]? with
    | some .feed => true
    | _ => false)
  | _, _ => false
mutual
def evE (Γ : Gam) : E → Rho → M D
  | .v i, ρ => match ρ[i]? with
    | some (.val d) => ret d
    | _ => bad
  | .c d, _ => ret d
  | .g x, _ => ofO (Γ.con x)
  | .tup es, ρ => mb (evL Γ es ρ) fun ds => ret (.tuple ds)
  | .lst es, ρ => mb (evL Γ es ρ) fun ds => ret (.list ds)
  | .bin o a b, ρ => mb (evE Γ a ρ) fun x => mb (evE Γ b ρ) fun y => ofO (bop o x y)
  | .neg a, ρ => mb (evE Γ a ρ) fun x => ofO ((asI x).map fun i => .int (-i))
  | .cmp o a b, ρ => mb (evE Γ a ρ) fun x => mb (evE Γ b ρ) fun y => ofO ((cop o x y).map .bool)
  | .chn o o' a b c, ρ => mb (evE Γ a ρ) fun x => mb (evE Γ b ρ) fun y => mb (ofO (cop o x y)) fun k => match k with
    | true => mb (evE Γ c ρ) fun z => ofO ((cop o' y z).map .bool)
    | false => ret (.bool false)
  | .isN a, ρ => mb (evE Γ a ρ) fun x => ret (.bool (isNone x))
  | .ntN a, ρ => mb (evE Γ a ρ) fun x => ret (.bool (!isNone x))
  | .and es, ρ => evAnd Γ es ρ
  | .or es, ρ => evOr Γ es ρ
  | .not a, ρ => mb (evE Γ a ρ) fun x => ofO ((asB x).map fun b => .bool (!b))
  | .ite c a b, ρ => mb (evE Γ c ρ) fun x => match x with
    | .bool true => evE Γ a ρ
    | .bool false => evE Γ b ρ
    | _ => bad
  | .ix a b, ρ => mb (evE Γ a ρ) fun x => mb (evE Γ b ρ) fun y => ofO (ixD x y)
  | .sl a lo hi, ρ => mb (evE Γ a ρ) fun x => mb (evO Γ lo ρ) fun l => mb (evO Γ hi ρ) fun h => ofO (slD x l h)
  | .call f es, ρ => mb (evA Γ es ρ) fun cs => match Γ.fn f cs.length with
    | some F => F cs
    | none => bad
  | .ckw f es k e, ρ => mb (evA Γ es ρ) fun cs => mb (evE Γ e ρ) fun d => match Γ.fk f k cs.length with
    | some F => F (cs ++ [.val d])
    | none => bad
  | .bi b es, ρ => mb (evL Γ es ρ) fun ds => ofO (bi b ds)
  | .isi a t, ρ => mb (evE Γ a ρ) fun x => ret (.bool (tyD x t))
  | .inK neg a x, ρ => mb (evE Γ a ρ) fun z => match z, Γ.tab x with
    | .str k, some kvs => ret (.bool (match looK k kvs with | some _ => !neg | none => neg))
    | _, _ => bad
  | .getK x a, ρ => mb (evE Γ a ρ) fun z => match z, Γ.tab x with
    | .str k, some kvs => ofO (looK k kvs)
    | _, _ => bad
  | .mth m o es, ρ => mb (evE Γ o ρ) fun x => mb (evL Γ es ρ) fun ds => ofO (mth m x ds)
  | .comp elt t it c own, ρ => mb (evI Γ it ρ) fun xs => mb (compL (fun x => mb (ofO (bindT t x (wipeR ρ (own.map (·.2))))) fun ρ' => mb (evC Γ c ρ') fun b => match b with
    | true => mb (evE Γ elt ρ') fun y => ret (some y)
    | false => ret none) xs) fun ys => if lenOk ys.length then ret (.list ys) else bad
  | .fg i k, ρ => match ρ[i]? with
    | some .feed => fun s => some (fget s k, s)
    | _ => bad
  | .lrg a, ρ => mb (evE Γ a ρ) fun x => match x with
    | .int j => if rngOk j then ret (.list (rngL 0 j.toNat)) else bad
    | _ => bad
def evAnd (Γ : Gam) : Es → Rho → M D
  | .nil, _ => ret (.bool true)
  | .cons e es, ρ => mb (evE Γ e ρ) fun x => match x with
    | .bool true => evAnd Γ es ρ
    | .bool false => ret (.bool false)
    | _ => bad
def evOr (Γ : Gam) : Es → Rho → M D
  | .nil, _ => ret (.bool false)
  | .cons e es, ρ => mb (evE Γ e ρ) fun x => match x with
    | .bool true => ret (.bool true)
    | .bool false => evOr Γ es ρ
    | _ => bad
def evL (Γ : Gam) : Es → Rho → M (List D)
  | .nil, _ => ret []
  | .cons e es, ρ => mb (evE Γ e ρ) fun x => mb (evL Γ es ρ) fun xs => ret (x :: xs)
/-- arguments of a call: a feed may be handed on -/
def evA (Γ : Gam) : Es → Rho → M (List C)
  | .nil, _ => ret []
  | .cons e es, ρ => mb (match isFeed e ρ with
    | true => ret .feed
    | false => mb (evE Γ e ρ) fun x => ret (.val x)) fun c => mb (evA Γ es ρ) fun cs => ret (c :: cs)
def evO (Γ : Gam) : Eo → Rho → M (Option Int)
  | .non, _ => ret none
  | .som e, ρ => mb (evE Γ e ρ) fun x => ofO ((asI x).map some)
/-- a comprehension's test -/
def evC (Γ : Gam) : Eo → Rho → M Bool
  | .non, _ => ret true
  | .som e, ρ => mb (evE Γ e ρ) fun x => ofO (asB x)
def evI (Γ : Gam) : It → Rho → M (List D)
  | .dat e, ρ => mb (evE Γ e ρ) fun x => ofO (itemsOf x)
  | .zip a b, ρ => mb (evE Γ a ρ) fun x => mb (evE Γ b ρ) fun y => match x, y with
    | .tuple xs, .tuple ys => ret (zipD xs ys)
    | .list xs, .list ys => ret (zipD xs ys)
    | _, _ => bad
  | .enm a, ρ => mb (evE Γ a ρ) fun x => match x with
    | .tuple xs => ret (enumFrom 0 xs)
    | .list xs => ret (enumFrom 0 xs)
    | _ => bad
  | .rng a, ρ => mb (evE Γ a ρ) fun x => match x with
    | .int j => if rngOk j then ret (rngL 0 j.toNat) else bad
    | _ => bad
  | .rng2 a b, ρ => mb (evE Γ a ρ) fun x => mb (evE Γ b ρ) fun y => match x, y with
    | .int i, .int j => if rngOk i && rngOk j then ret (rngL i (j - i).toNat) else bad
    | _, _ => bad
end
/-! ### statements -/
mutual
inductive Sm where
  | asg (t : Tg) (e : E) (fs : List Nat)
  | new (i : Nat) (e : E) (fs : List Nat)
  | asc (ow : Bool) (i : Nat) (elt : E) (t : Tg) (it : It) (c : Eo) (own : List (Str × Nat)) (fs : List Nat)
  | par (is : List Nat) (es : Es) (ows : List Bool) (fs : List Nat)
  | exp (e : E) (fs : List Nat)
  | ret (e : E) (fs : List Nat)
  | retN
  | iff (c : E) (fs : List Nat) (a b : Ss)
  | fr (t : Tg) (it : It) (fs : List Nat) (b : Ss)
  | whl (c : E) (fs : List Nat) (b : Ss)
  | app (i : Nat) (e : E) (fs : List Nat)
  | ext (i : Nat) (e : E) (fs : List Nat)
  | ins (i : Nat) (k e : E) (fs : List Nat)
  | sto (i : Nat) (k e : E) (fs : List Nat)
  | fset (i : Nat) (k : Fk) (e : E)
  | brk
  | cnt
  | pass
  | nev
inductive Ss where
  | nil
  | cons (m : Sm) (r : Ss)
end
inductive Fl where
  | nx (ρ : Rho)
  | rt (d : D)
  | bk (ρ : Rho)
  | ct (ρ : Rho)
/-- the owned lists at fs as values, the others out of sight -/
def froz (fs : List Nat) : Nat → Rho → Rho
  | _, [] => []
  | k, .own ds :: r => (if fs.contains k then .val (.list ds) else .emp) :: froz fs (k + 1) r
  | k, c :: r => c :: froz fs (k + 1) r
/-- the owned lists at fs are values from now on -/
def thaw (fs : List Nat) : Nat → Rho → Rho
  | _, [] => []
  | k, .own ds :: r => (if fs.contains k then .val (.list ds) else .own ds) :: thaw fs (k + 1) r
  | k, c :: r => c :: thaw fs (k + 1) r
def behind (fs : List Nat) (d : D) (ρ : Rho) : Rho := if flat d then ρ else thaw fs 0 ρ
/-- slots set at once, some of them owned -/
def setO : List Nat → List Bool → List D → Rho → Option Rho
  | [], [], [], ρ => some ρ
  | i :: is, false :: os, d :: ds, ρ => setO is os ds (ρ.set i (.val d))
  | i :: is, true :: os, .list xs :: ds, ρ => setO is os ds (ρ.set i (.own xs))
  | _, _, _, _ => none
def fset (s : Fd) : Fk → D → Option Fd
  | .spot, .int i => some { s with spot := i }
  | .left, .int i => some { s with left := i }
  | .turn, .int i => some { s with turn := i }
  | _, _ => none
/-- the turns of a for -/
def forL (f : D → Rho → M Fl) : List D → Rho → M Fl
  | [], ρ => ret (.nx ρ)
  | x :: xs, ρ => mb (f x ρ) fun r => match r with
    | .nx ρ' => forL f xs ρ'
    | .ct ρ' => forL f xs ρ'
    | .bk ρ' => ret (.nx ρ')
    | .rt d => ret (.rt d)
/-- the turns of a while, at most n -/
def whlL (c : Rho → M Bool) (f : Rho → M Fl) : Nat → Rho → M Fl
  | 0, _ => bad
  | n + 1, ρ => mb (c ρ) fun b => match b with
    | false => ret (.nx ρ)
    | true => mb (f ρ) fun r => match r with
      | .nx ρ' => whlL c f n ρ'
      | .ct ρ' => whlL c f n ρ'
      | .bk ρ' => ret (.nx ρ')
      | .rt d => ret (.rt d)
mutual
def evS (Γ : Gam) (N : Nat) : Sm → Rho → M Fl
  | .asg t e fs, ρ => mb (evE Γ e (froz fs 0 ρ)) fun d => ofO ((bindT t d (behind fs d ρ)).map .nx)
  | .new i e fs, ρ => mb (evE Γ e (froz fs 0 ρ)) fun d => match d with
    | .list ds => ret (.nx ((thaw fs 0 ρ).set i (.own ds)))
    | _ => bad
  | .asc ow i elt t it c own fs, ρ => mb (evE Γ (.comp elt t it c own) (froz fs 0 ρ)) fun d => match ow with
    | true => (match d with
      | .list ds => ret (.nx ((thaw fs 0 ρ).set i (.own ds)))
      | _ => bad)
    | false => ofO ((bindT (.nm i) d (behind fs d ρ)).map .nx)
  | .par is es ows fs, ρ => mb (evL Γ es (froz fs 0 ρ)) fun ds => ofO ((setO is ows ds (thaw fs 0 ρ)).map .nx)
  | .exp e fs, ρ => mb (evE Γ e (froz fs 0 ρ)) fun _ => ret (.nx ρ)
  | .ret e fs, ρ => mb (evE Γ e (froz fs 0 ρ)) fun d => ret (.rt d)
  | .retN, _ => ret (.rt .none)
  | .iff c fs a b, ρ => mb (evE Γ c (froz fs 0 ρ)) fun x => match x with
    | .bool true => evSs Γ N a ρ
    | .bool false => evSs Γ N b ρ
    | _ => bad
  | .fr t it fs b, ρ => mb (evI Γ it (froz fs 0 ρ)) fun xs => forL (fun x ρ' => mb (ofO (bindT t x ρ')) fun ρ2 => evSs Γ N b ρ2) xs (thaw fs 0 ρ)
  | .whl c fs b, ρ => whlL (fun ρ => mb (evE Γ c (froz fs 0 ρ)) fun x => ofO (asB x)) (fun ρ => evSs Γ N b ρ) N ρ
  | .app i e fs, ρ => mb (evE Γ e (froz fs 0 ρ)) fun d => match (behind fs d ρ)[i]? with
    | some (.own ds) => if lenOk ds.length then ret (.nx ((behind fs d ρ).set i (.own (ds ++ [d])))) else bad
    | _ => bad
  | .ext i e fs, ρ => mb (evE Γ e (froz fs 0 ρ)) fun d => match (thaw fs 0 ρ)[i]?, d with
    | some (.own ds), .list xs => if lenOk (ds.length + xs.length) then ret (.nx ((thaw fs 0 ρ).set i (.own (ds ++ xs)))) else bad
    | _, _ => bad
  | .ins i k e fs, ρ => mb (evE Γ k (froz fs 0 ρ)) fun j => mb (evE Γ e (froz fs 0 ρ)) fun d => match (behind fs d ρ)[i]?, j with
    | some (.own ds), .int j => if decide (0 ≤ j ∧ j ≤ 1000000) && lenOk ds.length then ret (.nx ((behind fs d ρ).set i (.own (ds.take j.toNat ++ [d] ++ ds.drop j.toNat)))) else bad
    | _, _ => bad
  | .sto i k e fs, ρ => mb (evE Γ e (froz fs 0 ρ)) fun d => mb (evE Γ k (froz fs 0 ρ)) fun j => match (behind fs d ρ)[i]?, j with
    | some (.own ds), .int j => if decide (0 ≤ j) && decide (j.toNat < ds.length) then ret (.nx ((behind fs d ρ).set i (.own (ds.set j.toNat d)))) else bad
    | _, _ => bad
  | .fset i k e, ρ => mb (evE Γ e (froz [] 0 ρ)) fun d => match ρ[i]? with
    | some .feed => fun s => (fset s k d).map fun s' => (.nx ρ, s')
    | _ => bad
  | .brk, ρ => ret (.bk ρ)
  | .cnt, ρ => ret (.ct ρ)
  | .pass, ρ => ret (.nx ρ)
  | .nev, _ => bad
def evSs (Γ : Gam) (N : Nat) : Ss → Rho → M Fl
  | .nil, ρ => ret (.nx ρ)
  | .cons m r, ρ => mb (evS Γ N m ρ) fun f => match f with
    | .nx ρ' => evSs Γ N r ρ'
    | f => ret f
end
/-- a def: n parameters, k slots in all -/
def evF (Γ : Gam) (N : Nat) (n k : Nat) (b : Ss) (cs : List C) : M D := if cs.length = n then mb (evSs Γ N b (cs ++ List.replicate (k - n) .emp)) fun f => match f with
    | .rt d => ret d
    | .nx _ => ret .none
    | _ => bad
  else bad
end Qv

namespace Qv
open PySem PySem.Spec PyProof.Rows L2
/-! ### what is frozen, what grows -/
abbrev Fo := Option (Addr × Str)
theorem sqL_up {K : PySem.W.Frag} {F F' : Hp} {a : Addr} {xs : List V} (e : Same F F') (h : SqL K F a xs) : SqL K F' a xs := e.seq h
theorem sqT_up {K : PySem.W.Frag} {F F' : Hp} {a : Addr} {xs : List V} (e : Same F F') (h : SqT K F a xs) : SqT K F' a xs := by
  rcases h with (h | ⟨o, h⟩) | h
  · exact .inl (.inl (e _ _ h))
  · exact .inl (.inr ⟨o, e _ _ h⟩)
  · exact .inr h
mutual
/-- a value that is this datum: lists tracked, tuples tracked or written -/
inductive Dv (K : PySem.W.Frag) (F : Hp) : V → PyData → Prop
  | non : Dv K F .non .none
  | bl (b : Bool) : Dv K F (.bl b) (.bool b)
  | int (i : Int) : Dv K F (.int i) (.int i)
  | str (x : Str) : Dv K F (.str x) (.str x)
  | lst {a : Addr} {xs : List V} {ds : List PyData} : F a = some (.lst xs) → DvAll K F xs ds → Dv K F (.ref a) (.list ds)
  | tup {a : Addr} {xs : List V} {ds : List PyData} : SqT K F a xs → DvAll K F xs ds → Dv K F (.ref a) (.tuple ds)
inductive DvAll (K : PySem.W.Frag) (F : Hp) : List V → List PyData → Prop
  | nil : DvAll K F [] []
  | cons {v : V} {vs : List V} {d : PyData} {ds : List PyData} : Dv K F v d → DvAll K F vs ds → DvAll K F (v :: vs) (d :: ds)
end
mutual
theorem dv_dp {K : PySem.W.Frag} {F H : Hp} (e : Same F H) : ∀ (d : D) (v : V), Dv K F v d → Dp K H v d
  | .none, _, h => by cases h; exact .non
  | .bool b, _, h => by cases h; exact .bl _
  | .int i, _, h => by cases h; exact .int _
  | .str x, _, h => by cases h; exact .str _
  | .list ds, _, h => by
    cases h with
    | lst hq ha => exact .lst (.inl (.inl (e _ _ hq))) (dvs_dp e ds _ ha)
  | .tuple ds, _, h => by
    cases h with
    | tup hq ha => exact .tup (sqT_up e hq) (dvs_dp e ds _ ha)
  | .dict _, _, h => nomatch h
theorem dvs_dp {K : PySem.W.Frag} {F H : Hp} (e : Same F H) : ∀ (ds : List D) (vs : List V), DvAll K F vs ds → DpAll K H vs ds
  | [], _, h => by cases h; exact .nil
  | d :: ds, _, h => by
    cases h with
    | cons h1 h2 => exact .cons (dv_dp e d _ h1) (dvs_dp e ds _ h2)
end
mutual
theorem dv_up {K : PySem.W.Frag} {F F' : Hp} (e : Same F F') : ∀ (d : D) (v : V), Dv K F v d → Dv K F' v d
  | .none, _, h => by cases h; exact .non
  | .bool b, _, h => by cases h; exact .bl _
  | .int i, _, h => by cases h; exact .int _
  | .str x, _, h => by cases h; exact .str _
  | .list ds, _, h => by
    cases h with
    | lst hq ha => exact .lst (e _ _ hq) (dvs_up e ds _ ha)
  | .tuple ds, _, h => by
    cases h with
    | tup hq ha => exact .tup (sqT_up e hq) (dvs_up e ds _ ha)
  | .dict _, _, h => nomatch h
theorem dvs_up {K : PySem.W.Frag} {F F' : Hp} (e : Same F F') : ∀ (ds : List D) (vs : List V), DvAll K F vs ds → DvAll K F' vs ds
  | [], _, h => by cases h; exact .nil
  | d :: ds, _, h => by
    cases h with
    | cons h1 h2 => exact .cons (dv_up e d _ h1) (dvs_up e ds _ h2)
end
theorem dvs_len {K : PySem.W.Frag} {F : Hp} : ∀ {ds : List D} {vs : List V}, DvAll K F vs ds → vs.length = ds.length
  | _, _, .nil => rfl
  | _, _, .cons _ h => by
    simp only [List.length_cons]
    rw [dvs_len h]
theorem dvs_get {K : PySem.W.Frag} {F : Hp} : ∀ {ds : List D} {vs : List V} {i : Nat} {d : D}, DvAll K F vs ds → ds[i]? = some d → ∃ v, vs[i]? = some v ∧ Dv K F v d
  | _, _, _, _, .nil, e => by simp at e
  | _, _, 0, _, .cons h _, e => by simp at e; subst e; exact ⟨_, rfl, h⟩
  | _, _, i + 1, _, .cons _ h, e => by
    obtain ⟨v, h1, h2⟩ := dvs_get (i := i) h (by simpa using e)
    exact ⟨v, by simpa using h1, h2⟩
theorem dvs_app {K : PySem.W.Frag} {F : Hp} : ∀ {ds es : List D} {vs us : List V}, DvAll K F vs ds → DvAll K F us es → DvAll K F (vs ++ us) (ds ++ es)
  | _, _, _, _, .nil, h => h
  | _, _, _, _, .cons h1 h2, h => .cons h1 (dvs_app h2 h)
theorem dvs_take {K : PySem.W.Frag} {F : Hp} : ∀ {ds : List D} {vs : List V} (n : Nat), DvAll K F vs ds → DvAll K F (vs.take n) (ds.take n)
  | _, _, 0, _ => by rw [List.take_zero, List.take_zero]; exact .nil
  | _, _, _ + 1, .nil => .nil
  | _, _, n + 1, .cons h1 h2 => .cons h1 (dvs_take n h2)
theorem dvs_drop {K : PySem.W.Frag} {F : Hp} : ∀ {ds : List D} {vs : List V} (n : Nat), DvAll K F vs ds → DvAll K F (vs.drop n) (ds.drop n)
  | _, _, 0, h => h
  | _, _, _ + 1, .nil => .nil
  | _, _, n + 1, .cons _ h2 => dvs_drop n h2
theorem dvs_set {K : PySem.W.Frag} {F : Hp} {v : V} {d : D} (h : Dv K F v d) : ∀ {ds : List D} {vs : List V} (n : Nat), DvAll K F vs ds → DvAll K F (vs.set n v) (ds.set n d)
  | _, _, _, .nil => .nil
  | _, _, 0, .cons _ h2 => .cons h h2
  | _, _, n + 1, .cons h1 h2 => .cons h1 (dvs_set h n h2)
structure Gr (fo : Fo) (F H F' H' : Hp) : Prop where
  up : Same F F'
  sub : Same F' H'
  keep : ∀ a o, H a = some o → F a = none → (∀ k, fo ≠ some (a, k)) → H' a = some o ∧ F' a = none
  fd : ∀ f k c kvs, fo = some (f, k) → F f = none → H f = some (.dK ((.inr "cells", .ref c) :: kvs)) → F' f = none ∧ ∃ kvs', H' f = some (.dK ((.inr "cells", .ref c) :: kvs'))
theorem Gr.refl {fo : Fo} {F H : Hp} (s : Same F H) : Gr fo F H F H := ⟨Same.refl F, s, fun _ _ h n _ => ⟨h, n⟩, fun _ _ _ kvs _ n h => ⟨n, kvs, h⟩⟩
theorem Gr.trans {fo : Fo} {F H F1 H1 F2 H2 : Hp} (a : Gr fo F H F1 H1) (b : Gr fo F1 H1 F2 H2) : Gr fo F H F2 H2 :=
  ⟨a.up.trans b.up, b.sub, fun x o h n k => by
    obtain ⟨h1, n1⟩ := a.keep x o h n k
    exact b.keep x o h1 n1 k, fun f k c kvs e n h => by
    obtain ⟨n1, kvs1, h1⟩ := a.fd f k c kvs e n h
    exact b.fd f k c kvs1 e n1 h1⟩
theorem Gr.any {fo : Fo} {F H F' H' : Hp} (a : Gr none F H F' H') : Gr fo F H F' H' := ⟨a.up, a.sub, fun x o h n _ => a.keep x o h n (fun _ z => nomatch z), fun f k c kvs _ n h => by
  obtain ⟨h1, n1⟩ := a.keep f _ h n (fun _ z => nomatch z)
  exact ⟨n1, kvs, h1⟩⟩
theorem same_new {H : Hp} {p : Addr} {o : HO} (h : H p = none) : Same H (upd H p o) := fun b x e => by
  rw [upd_ne (ne_of_none e h)]
  exact e
/-- a new object, frozen -/
theorem Gr.new {fo : Fo} {F H : Hp} {p : Addr} {o : HO} (s : Same F H) (h : H p = none) : Gr fo F H (upd F p o) (upd H p o) := by
  have hf : F p = none := s.free h
  refine ⟨same_new hf, fun b x e => ?_, fun a u ha fa _ => ?_, fun f k c kvs _ n ha => ?_⟩
  · by_cases hb : b = p
    · subst hb
      rw [upd_same] at e ⊢
      exact e
    · rw [upd_ne hb] at e ⊢
      exact s b x e
  · have hne : a ≠ p := ne_of_none ha h
    rw [upd_ne hne, upd_ne hne]
    exact ⟨ha, fa⟩
  · have hne : f ≠ p := ne_of_none ha h
    rw [upd_ne hne, upd_ne hne]
    exact ⟨n, kvs, ha⟩
/-- a new object, not frozen -/
theorem Gr.free {fo : Fo} {F H : Hp} {p : Addr} {o : HO} (s : Same F H) (h : H p = none) : Gr fo F H F (upd H p o) :=
  ⟨Same.refl F, fun b x e => by
    have := s b x e
    rw [upd_ne (ne_of_none this h)]
    exact this, fun a u ha fa _ => by
    rw [upd_ne (ne_of_none ha h)]
    exact ⟨ha, fa⟩, fun f k c kvs _ n ha => by
    rw [upd_ne (ne_of_none ha h)]
    exact ⟨n, kvs, ha⟩⟩
def FeedAt (K : PySem.W.Frag) (kL : Str) (F H : Hp) (f : Addr) (s : Fd) : Prop :=
  F f = none ∧ ∃ c, H f = some (.dK [(.inr "cells", .ref c), (.inr "spot", .int s.spot), (.inr kL, .int s.left), (.inr "turn", .int s.turn)]) ∧ F c = some (.lst (s.cells.map V.int))
def FeedInv (K : PySem.W.Frag) (fo : Fo) (F H : Hp) (s : Fd) : Prop := match fo with
  | none => True
  | some (f, kL) => FeedAt K kL F H f s
theorem FeedInv.gr {K : PySem.W.Frag} {fo : Fo} {F H F' H' : Hp} {s : Fd} (h : FeedInv K fo F H s) (g : Gr none F H F' H') : FeedInv K fo F' H' s := by
  cases fo with
  | none => trivial
  | some q =>
    obtain ⟨f, kL⟩ := q
    obtain ⟨n, c, hf, hc⟩ := h
    obtain ⟨h1, n1⟩ := g.keep f _ hf n (fun _ z => nomatch z)
    exact ⟨n1, c, h1, g.up _ _ hc⟩
/-- what is free behind was free ahead -/
theorem Gr.back {K : PySem.W.Frag} {fo : Fo} {F H F' H' : Hp} {s : Fd} {p : Addr} (g : Gr fo F H F' H') (f : FeedInv K fo F' H' s) (hp : H' p = none) : H p = none := by
  cases e : H p with
  | none => rfl
  | some o =>
    exfalso
    by_cases hf : F p = none
    · by_cases hk : ∃ k, fo = some (p, k)
      · obtain ⟨k, rfl⟩ := hk
        obtain ⟨_, c, hc, _⟩ := f
        rw [hp] at hc
        cases hc
      · have := (g.keep p o e hf (fun k z => hk ⟨k, z⟩)).1
        rw [hp] at this
        cases this
    · cases e2 : F p with
      | none => exact hf e2
      | some u =>
        have := g.sub p u (g.up p u e2)
        rw [hp] at this
        cases this
def SlotX (K : PySem.W.Frag) (fo : Fo) (F : Hp) (o : Option (Option V)) : C → Prop
  | .val d => ∃ v, o = some (some v) ∧ Dv K F v d
  | .feed => ∃ f k, fo = some (f, k) ∧ o = some (some (.ref f))
  | _ => True
structure Mx (K : PySem.W.Frag) (fo : Fo) (F H : Hp) (σ : L2.St) (ρ : Rho) (s : Fd) : Prop where
  sub : Same F H
  len : σ.length = ρ.length
  slot : ∀ (i : Nat) (c : C), ρ[i]? = some c → SlotX K fo F (σ[i]?) c
  feed : FeedInv K fo F H s
theorem Mx.gr {K : PySem.W.Frag} {fo : Fo} {F H F' H' : Hp} {σ : L2.St} {ρ : Rho} {s s' : Fd} (m : Mx K fo F H σ ρ s) (g : Gr fo F H F' H') (f : FeedInv K fo F' H' s') : Mx K fo F' H' σ ρ s' :=
  ⟨g.sub, m.len, fun i c e => by
    have h := m.slot i c e
    cases c with
    | val d =>
      obtain ⟨v, h1, h2⟩ := h
      exact ⟨v, h1, dv_up g.up _ _ h2⟩
    | feed => exact h
    | emp => trivial
    | own _ => trivial, f⟩
/-! ### what evaluates to what -/
def EvD (K : PySem.W.Frag) (fo : Fo) (te : TE) (σ : L2.St) (ρ : Rho) (m : M D) : Prop := ∀ F H s d s', Mx K fo F H σ ρ s → m s = some (d, s') → ∀ Q : VK,
  (∀ v F' H', Gr fo F H F' H' → FeedInv K fo F' H' s' → Dv K F' v d → Q v H') → te σ H Q
def EvT (K : PySem.W.Frag) (fo : Fo) (tt : TT) (σ : L2.St) (ρ : Rho) (m : M D) : Prop := ∀ F H s b s', Mx K fo F H σ ρ s → m s = some (.bool b, s') → ∀ Q : Bool → Hp → Prop,
  (∀ F' H', Gr fo F H F' H' → FeedInv K fo F' H' s' → Q b H') → tt σ H Q
def EvLs (K : PySem.W.Frag) (fo : Fo) (ta : TA) (σ : L2.St) (ρ : Rho) (m : M (List D)) : Prop := ∀ F H s ds s', Mx K fo F H σ ρ s → m s = some (ds, s') → ∀ Q : List V → Hp → Prop,
  (∀ vs F' H', Gr fo F H F' H' → FeedInv K fo F' H' s' → DvAll K F' vs ds → Q vs H') → ta σ H Q
def CellV (K : PySem.W.Frag) (fo : Fo) (F : Hp) (v : V) : C → Prop
  | .val d => Dv K F v d
  | .feed => ∃ f k, fo = some (f, k) ∧ v = .ref f
  | _ => False
theorem cellV_up {K : PySem.W.Frag} {fo : Fo} {F F' : Hp} {v : V} {c : C} (e : Same F F') (h : CellV K fo F v c) : CellV K fo F' v c := by
  cases c with
  | val d => exact dv_up e _ _ h
  | feed => exact h
  | emp => exact h
  | own _ => exact h
def EvAs (K : PySem.W.Frag) (fo : Fo) (ta : TA) (σ : L2.St) (ρ : Rho) (m : M (List C)) : Prop := ∀ F H s cs s', Mx K fo F H σ ρ s → m s = some (cs, s') → ∀ Q : List V → Hp → Prop,
  (∀ vs F' H', Gr fo F H F' H' → FeedInv K fo F' H' s' → Paired (CellV K fo F') vs cs → Q vs H') → ta σ H Q
/-- an operation on values, as one on data -/
def Op2 (K : PySem.W.Frag) (r : R2) (f : D → D → Option D) : Prop := ∀ F H x y a b d, Same F H → Dv K F x a → Dv K F y b → f a b = some d → ∀ Q : VK,
  (∀ v F' H', Gr none F H F' H' → Dv K F' v d → Q v H') → r x y H Q
def Op1 (K : PySem.W.Frag) (r : V → Hp → VK → Prop) (f : D → Option D) : Prop := ∀ F H x a d, Same F H → Dv K F x a → f a = some d → ∀ Q : VK,
  (∀ v F' H', Gr none F H F' H' → Dv K F' v d → Q v H') → r x H Q
def OpN (K : PySem.W.Frag) (r : List V → Hp → VK → Prop) (f : List D → Option D) : Prop := ∀ F H vs ds d, Same F H → DvAll K F vs ds → f ds = some d → ∀ Q : VK,
  (∀ v F' H', Gr none F H F' H' → Dv K F' v d → Q v H') → r vs H Q
theorem mb_some {α β : Type} {x : M α} {f : α → M β} {s : Fd} {b : β} {s' : Fd} (h : mb x f s = some (b, s')) : ∃ a s1, x s = some (a, s1) ∧ f a s1 = some (b, s') := by
  unfold mb at h
  cases e : x s with
  | none => rw [e] at h; cases h
  | some q =>
    obtain ⟨a, s1⟩ := q
    rw [e] at h
    exact ⟨a, s1, rfl, h⟩
theorem ofO_some {α : Type} {o : Option α} {s : Fd} {a : α} {s' : Fd} (h : ofO o s = some (a, s')) : o = some a ∧ s' = s := by
  unfold ofO at h
  cases e : o with
  | none => rw [e] at h; cases h
  | some q =>
    rw [e] at h
    cases h
    exact ⟨rfl, rfl⟩
theorem ret_some {α : Type} {a b : α} {s s' : Fd} (h : ret a s = some (b, s')) : a = b ∧ s' = s := by
  cases h
  exact ⟨rfl, rfl⟩
section
variable {K : PySem.W.Frag} {fo : Fo} {σ : L2.St} {ρ : Rho} {Γ : Gam}
theorem ev_var {i : Nat} : EvD K fo (tVar i) σ ρ (evE Γ (.v i) ρ) := fun F H s d s' m h Q q => by
  unfold evE at h
  cases e : ρ[i]? with
  | none => rw [e] at h; cases h
  | some c =>
    rw [e] at h
    cases c with
    | val d0 =>
      obtain ⟨rfl, rfl⟩ := ret_some h
      obtain ⟨v, h1, h2⟩ := m.slot i _ e
      exact ⟨v, h1, q v F H (Gr.refl m.sub) m.feed h2⟩
    | emp => cases h
    | own _ => cases h
    | feed => cases h
theorem ev_c {v : V} {d : D} (hd : ∀ F, Dv K F v d) : EvD K fo (tC v) σ ρ (ret d) := fun F H s d' s' m h Q q => by
  obtain ⟨rfl, rfl⟩ := ret_some h
  exact q v F H (Gr.refl m.sub) m.feed (hd F)
theorem ev_bin {ta tb : TE} {ma mb' : M D} {r : R2} {f : D → D → Option D} (ha : EvD K fo ta σ ρ ma) (hb : EvD K fo tb σ ρ mb') (hr : Op2 K r f) : EvD K fo (tOp r ta tb) σ ρ (mb ma fun x => mb mb' fun y => ofO (f x y)) := fun F H s d s' m h Q q => by
  obtain ⟨a, s1, h1, h⟩ := mb_some h
  obtain ⟨b, s2, h2, h⟩ := mb_some h
  obtain ⟨h3, rfl⟩ := ofO_some h
  refine ha F H s a s1 m h1 _ fun x F1 H1 g1 f1 d1 => ?_
  have m1 := m.gr g1 f1
  refine hb F1 H1 s1 b s' m1 h2 _ fun y F2 H2 g2 f2 d2 => ?_
  refine hr F2 H2 x y a b d g2.sub (dv_up g2.up _ _ d1) d2 h3 Q fun v F3 H3 g3 d3 => ?_
  exact q v F3 H3 ((g1.trans g2).trans g3.any) (f2.gr g3) d3
theorem ev_un {ta : TE} {ma : M D} {r : V → Hp → VK → Prop} {f : D → Option D} (ha : EvD K fo ta σ ρ ma) (hr : Op1 K r f) : EvD K fo (tUn r ta) σ ρ (mb ma fun x => ofO (f x)) := fun F H s d s' m h Q q => by
  obtain ⟨a, s1, h1, h⟩ := mb_some h
  obtain ⟨h3, rfl⟩ := ofO_some h
  refine ha F H s a s' m h1 _ fun x F1 H1 g1 f1 d1 => ?_
  refine hr F1 H1 x a d g1.sub d1 h3 Q fun v F3 H3 g3 d3 => ?_
  exact q v F3 H3 (g1.trans g3.any) (f1.gr g3) d3
theorem ev_nil : EvLs K fo tNil σ ρ (evL Γ .nil ρ) := fun F H s ds s' m h Q q => by
  unfold evL at h
  obtain ⟨rfl, rfl⟩ := ret_some h
  exact q [] F H (Gr.refl m.sub) m.feed .nil
theorem ev_cons {e : E} {es : Es} {te : TE} {ta : TA} (h1 : EvD K fo te σ ρ (evE Γ e ρ)) (h2 : EvLs K fo ta σ ρ (evL Γ es ρ)) : EvLs K fo (tCons te ta) σ ρ (evL Γ (.cons e es) ρ) := fun F H s ds s' m h Q q => by
  unfold evL at h
  obtain ⟨a, s1, e1, h⟩ := mb_some h
  obtain ⟨as, s2, e2, h⟩ := mb_some h
  obtain ⟨rfl, rfl⟩ := ret_some h
  refine h1 F H s a s1 m e1 _ fun x F1 H1 g1 f1 d1 => ?_
  refine h2 F1 H1 s1 as s' (m.gr g1 f1) e2 _ fun xs F2 H2 g2 f2 d2 => ?_
  exact q (x :: xs) F2 H2 (g1.trans g2) f2 (.cons (dv_up g2.up _ _ d1) d2)
def esLen : Es → Nat
  | .nil => 0
  | .cons _ es => esLen es + 1
theorem evL_len : ∀ (es : Es) (s : Fd) (ds : List D) (s' : Fd), evL Γ es ρ s = some (ds, s') → ds.length = esLen es
  | .nil, s, ds, s', h => by
    unfold evL at h
    obtain ⟨rfl, _⟩ := ret_some h
    rfl
  | .cons e es, s, ds, s', h => by
    unfold evL at h
    obtain ⟨a, s1, _, h⟩ := mb_some h
    obtain ⟨as, s2, e2, h⟩ := mb_some h
    obtain ⟨rfl, _⟩ := ret_some h
    show as.length + 1 = esLen es + 1
    rw [evL_len es s1 as s2 e2]
theorem le_line {n : Nat} (h : n ≤ 1000000) : n ≤ sizeLine := Nat.le_trans h (by rw [sizeLine_eq]; decide)
theorem lt_line {n : Nat} (h : n ≤ 1000000) : n < sizeLine := Nat.lt_of_le_of_lt h (by rw [sizeLine_eq]; decide)
theorem ev_tup {es : Es} {ta : TA} (hl : esLen es ≤ 1000) (h2 : EvLs K fo ta σ ρ (evL Γ es ρ)) : EvD K fo (tTup ta) σ ρ (evE Γ (.tup es) ρ) := fun F H s d s' m h Q q => by
  unfold evE at h
  obtain ⟨ds, s1, e1, h⟩ := mb_some h
  obtain ⟨rfl, rfl⟩ := ret_some h
  refine h2 F H s ds s' m e1 _ fun vs F1 H1 g1 f1 d1 => ?_
  have hz : vs.length ≤ sizeLine := by
    rw [dvs_len d1, evL_len es _ _ _ e1]
    exact le_line (by omega)
  refine ⟨hz, fun p hp => ?_⟩
  have g : Gr none F1 H1 (upd F1 p (.tup vs)) (upd H1 p (.tup vs)) := Gr.new g1.sub hp
  exact q (.ref p) _ _ (g1.trans g.any) (f1.gr g) (.tup (.inl (.inl upd_same)) (dvs_up g.up _ _ d1))
/-- a new list, owned by whoever takes it -/
def EvN (K : PySem.W.Frag) (fo : Fo) (te : TE) (σ : L2.St) (ρ : Rho) (m : M D) : Prop := ∀ F H s ds s', Mx K fo F H σ ρ s → m s = some (.list ds, s') → ∀ Q : VK,
  (∀ p xs F' H', Gr fo F H F' H' → FeedInv K fo F' H' s' → H p = none → H' p = some (.lst xs) → F' p = none → DvAll K F' xs ds → Q (.ref p) H') → te σ H Q
theorem EvN.evD {te : TE} {m : M D} (hl : ∀ s d s', m s = some (d, s') → ∃ ds, d = .list ds) (h : EvN K fo te σ ρ m) : EvD K fo te σ ρ m := fun F H s d s' mx hm Q q => by
  obtain ⟨ds, rfl⟩ := hl s d s' hm
  refine h F H s ds s' mx hm Q fun p xs F' H' g f hn hp fp dp => ?_
  · skip
    have g2 : Gr fo F H (upd F' p (.lst xs)) H' := by
      refine ⟨g.up.trans (same_new fp), fun b x e => ?_, fun a u ha fa k => ?_, fun f0 k c kvs ef n ha => ?_⟩
      · by_cases hb : b = p
        · subst hb
          rw [upd_same] at e
          rw [hp]
          exact e
        · rw [upd_ne hb] at e
          exact g.sub b x e
      · rw [upd_ne (ne_of_none ha hn)]
        exact g.keep a u ha fa k
      · rw [upd_ne (ne_of_none ha hn)]
        exact g.fd f0 k c kvs ef n ha
    have f2 : FeedInv K fo (upd F' p (.lst xs)) H' s' := by
      cases fo with
      | none => trivial
      | some w =>
        obtain ⟨f0, kL⟩ := w
        obtain ⟨n, c, hf, hc⟩ := f
        have hne : f0 ≠ p := fun z => by
          rw [z, hp] at hf
          cases hf
        exact ⟨by rw [upd_ne hne]; exact n, c, hf, same_new fp _ _ hc⟩
    exact q (.ref p) _ H' g2 f2 (.lst upd_same (dvs_up (same_new fp) _ _ dp))
theorem ev_lst {es : Es} {ta : TA} (hl : esLen es ≤ 1000) (h2 : EvLs K fo ta σ ρ (evL Γ es ρ)) : EvN K fo (tLst ta) σ ρ (evE Γ (.lst es) ρ) := fun F H s ds0 s' m h Q q => by
  unfold evE at h
  obtain ⟨ds, s1, e1, h⟩ := mb_some h
  obtain ⟨z1, rfl⟩ := ret_some h
  cases z1
  refine h2 F H s ds0 s' m e1 _ fun vs F1 H1 g1 f1 d1 => ?_
  have hz : vs.length ≤ sizeLine := by
    rw [dvs_len d1, evL_len es _ _ _ e1]
    exact le_line (by omega)
  refine ⟨hz, fun p hp => ?_⟩
  have g : Gr none F1 H1 F1 (upd H1 p (.lst vs)) := Gr.free g1.sub hp
  have hp0 : H p = none := g1.back f1 hp
  exact q p vs F1 _ (g1.trans g.any) (f1.gr g) hp0 upd_same (g1.sub.free hp) d1
end
end Qv

namespace Qv
open PySem PySem.Spec PyProof.Rows L2
section
variable {K : PySem.W.Frag} {X : Cx}
theorem if_some {α : Type} {c : Bool} {a d : α} (h : (if c = true then some a else none) = some d) : c = true ∧ a = d := by
  cases c with
  | true => exact ⟨rfl, Option.some.inj h⟩
  | false => cases h
theorem lenOk_le {n : Nat} (h : lenOk n = true) : n ≤ 1000000 := of_decide_eq_true h
/-! ### binary operators -/
def rAddA (K : PySem.W.Frag) : R2 := fun x y H Q => ((rI0 fun i j => .int (i + j)) x y H Q ∨ (∃ i j, x = .str i ∧ y = .str j ∧ i.length + j.length ≤ sizeLine ∧ Q (.str (i ++ j)) H)) ∨ (rCatA K x y H Q ∨ rCat x y H Q)
theorem or_add : OpR X (binaryOp .Add) (rAddA X.K) := OpR.or (OpR.or op_add op_add_str) (OpR.or op_catA op_cat)
theorem o2_add : Op2 K (rAddA K) (bop .add) := fun F H x y a b d sb ha hb e Q q => by
  cases ha with
  | int i =>
    cases hb with
    | int j =>
      cases e
      exact .inl (.inl ⟨i, j, rfl, rfl, q _ F H (Gr.refl sb) (.int _)⟩)
    | _ => cases e
  | str x =>
    cases hb with
    | str y =>
      obtain ⟨hl, rfl⟩ := if_some e
      exact .inl (.inr ⟨x, y, rfl, rfl, le_line (lenOk_le hl), q _ F H (Gr.refl sb) (.str _)⟩)
    | _ => cases e
  | @tup a xs ds hq hd =>
    cases hb with
    | @tup b ys es hq2 hd2 =>
      obtain ⟨hl, rfl⟩ := if_some e
      have hlen : xs.length + ys.length ≤ sizeLine := by
        rw [dvs_len hd, dvs_len hd2]
        exact le_line (lenOk_le hl)
      refine .inr (.inl ⟨a, b, xs, ys, rfl, rfl, sqT_up sb hq, sqT_up sb hq2, hlen, fun z => ?_, fun _ z => ?_, fun _ _ p hp => ?_⟩)
      · subst z
        cases hd
        exact q _ F H (Gr.refl sb) (.tup hq2 hd2)
      · subst z
        cases hd2
        rw [List.append_nil] at q
        exact q _ F H (Gr.refl sb) (.tup hq hd)
      · have g : Gr none F H (upd F p (.tup (xs ++ ys))) (upd H p (.tup (xs ++ ys))) := Gr.new sb hp
        exact q _ _ _ g (.tup (.inl (.inl upd_same)) (dvs_app (dvs_up g.up _ _ hd) (dvs_up g.up _ _ hd2)))
    | _ => cases e
  | @lst a xs ds hq hd =>
    cases hb with
    | @lst b ys es hq2 hd2 =>
      obtain ⟨hl, rfl⟩ := if_some e
      have hlen : xs.length + ys.length ≤ sizeLine := by
        rw [dvs_len hd, dvs_len hd2]
        exact le_line (lenOk_le hl)
      refine .inr (.inr ⟨a, b, xs, ys, rfl, rfl, sb _ _ hq, sb _ _ hq2, hlen, fun p hp => ?_⟩)
      have g : Gr none F H (upd F p (.lst (xs ++ ys))) (upd H p (.lst (xs ++ ys))) := Gr.new sb hp
      exact q _ _ _ g (.lst upd_same (dvs_app (dvs_up g.up _ _ hd) (dvs_up g.up _ _ hd2)))
    | _ => cases e
  | _ => cases e
theorem o2_sub : Op2 K (rI0 fun i j => .int (i - j)) (bop .sub) := fun F H x y a b d sb ha hb e Q q => by
  cases ha with
  | int i =>
    cases hb with
    | int j =>
      cases e
      exact ⟨i, j, rfl, rfl, q _ F H (Gr.refl sb) (.int _)⟩
    | _ => cases e
  | _ => cases e
theorem dvs_rep {F : Hp} {xs : List V} {ds : List D} (h : DvAll K F xs ds) : ∀ n : Nat, DvAll K F (List.replicate n xs).flatten (List.replicate n ds).flatten
  | 0 => .nil
  | n + 1 => by
    rw [List.replicate_succ, List.replicate_succ, List.flatten_cons, List.flatten_cons]
    exact dvs_app h (dvs_rep h n)
def rMulA (K : PySem.W.Frag) : R2 := fun x y H Q => (rI CMul fun i j => .int (i * j)) x y H Q ∨ rRep x y H Q
theorem or_mul : OpR X (binaryOp .Mult) (rMulA X.K) := OpR.or op_mul op_rep
theorem o2_mul : Op2 K (rMulA K) (bop .mul) := fun F H x y a b d sb ha hb e Q q => by
  cases ha with
  | int i =>
    cases hb with
    | int j =>
      obtain ⟨hl, rfl⟩ := if_some e
      refine .inl ⟨i, j, rfl, rfl, ?_, q _ F H (Gr.refl sb) (.int _)⟩
      rcases Bool.or_eq_true_iff.mp hl with h | h
      · exact .inl (of_decide_eq_true h)
      · exact .inr (of_decide_eq_true h)
    | _ => cases e
  | @lst a xs ds hq hd =>
    cases hb with
    | int k =>
      obtain ⟨hl, rfl⟩ := if_some e
      obtain ⟨h1, h2⟩ := Bool.and_eq_true_iff.mp hl
      have h3 := of_decide_eq_true h1
      refine .inr ⟨a, k, xs, rfl, rfl, sb _ _ hq, by omega, by omega, by rw [dvs_len hd]; exact le_line (lenOk_le h2), fun p hp => ?_⟩
      have g : Gr none F H (upd F p (.lst (List.replicate k.toNat xs).flatten)) (upd H p (.lst (List.replicate k.toNat xs).flatten)) := Gr.new sb hp
      exact q _ _ _ g (.lst upd_same (dvs_rep (dvs_up g.up _ _ hd) k.toNat))
    | _ => cases e
  | _ => cases e
theorem o2_fdiv : Op2 K (rI CDiv fun i j => .int (i / j)) (bop .fdiv) := fun F H x y a b d sb ha hb e Q q => by
  cases ha with
  | int i =>
    cases hb with
    | int j =>
      obtain ⟨hl, rfl⟩ := if_some e
      exact ⟨i, j, rfl, rfl, (show 0 < j ∧ j < 1073741824 from of_decide_eq_true hl), q _ F H (Gr.refl sb) (.int _)⟩
    | _ => cases e
  | _ => cases e
theorem o2_mod : Op2 K (rI (fun _ j => 0 < j) fun i j => .int (i % j)) (bop .mod) := fun F H x y a b d sb ha hb e Q q => by
  cases ha with
  | int i =>
    cases hb with
    | int j =>
      obtain ⟨hl, rfl⟩ := if_some e
      exact ⟨i, j, rfl, rfl, of_decide_eq_true hl, q _ F H (Gr.refl sb) (.int _)⟩
    | _ => cases e
  | _ => cases e
theorem o2_pow : Op2 K (rI CPow fun i j => .int (i ^ j.toNat)) (bop .pow) := fun F H x y a b d sb ha hb e Q q => by
  cases ha with
  | int i =>
    cases hb with
    | int j =>
      obtain ⟨hl, rfl⟩ := if_some e
      exact ⟨i, j, rfl, rfl, (show 0 ≤ j ∧ j ≤ 1000000 ∧ i.natAbs < 2 ^ 64 from of_decide_eq_true hl), q _ F H (Gr.refl sb) (.int _)⟩
    | _ => cases e
  | _ => cases e
def opOf : Bop → Operator
  | .add => .Add
  | .sub => .Sub
  | .mul => .Mult
  | .fdiv => .FloorDiv
  | .mod => .Mod
  | .pow => .Pow
theorem bop_ok (o : Bop) : ∃ r, OpR X (binaryOp (opOf o)) r ∧ Op2 X.K r (bop o) := by
  cases o with
  | add => exact ⟨_, or_add, o2_add⟩
  | sub => exact ⟨_, op_sub, o2_sub⟩
  | mul => exact ⟨_, or_mul, o2_mul⟩
  | fdiv => exact ⟨_, op_fdiv, o2_fdiv⟩
  | mod => exact ⟨_, op_mod, o2_mod⟩
  | pow => exact ⟨_, op_pow, o2_pow⟩
/-! ### comparisons -/
theorem flat_v {F : Hp} {v : V} {d : D} (h : Dv K F v d) (f : flat d = true) : flatV v = true := by
  cases h <;> first | rfl | cases f
theorem flats_v {F : Hp} : ∀ {ds : List D} {vs : List V}, DvAll K F vs ds → ds.all flat = true → vs.all flatV = true
  | _, _, .nil, _ => rfl
  | _, _, .cons h1 h2, f => by
    rw [List.all_cons, Bool.and_eq_true_iff] at f ⊢
    exact ⟨flat_v h1 f.1, flats_v h2 f.2⟩
theorem eqV_F {F : Hp} {v u : V} {a b : D} (h1 : Dv K F v a) (h2 : Dv K F u b) (fa : flat a = true) (fb : flat b = true) : eqV v u = eqF a b := by
  cases h1 <;> first | (cases fa; done) | (cases h2 <;> first | rfl | cases fb)
theorem inV_F {F : Hp} {v : V} {a : D} (h1 : Dv K F v a) (fa : flat a = true) : ∀ {ds : List D} {vs : List V}, DvAll K F vs ds → ds.all flat = true → inV v vs = ds.any fun y => eqF y a
  | _, _, .nil, _ => rfl
  | _, _, .cons h2 h3, f => by
    rw [List.all_cons, Bool.and_eq_true_iff] at f
    show (eqV _ v || inV v _) = _
    rw [List.any_cons, eqV_F h2 h1 f.1 fa, inV_F h1 fa h3 f.2]
def cmpOf : Cop → CmpOp
  | .eq => .Eq
  | .ne => .NotEq
  | .lt => .Lt
  | .le => .LtE
  | .gt => .Gt
  | .ge => .GtE
  | .isin => .In
  | .notin => .NotIn
def rEqA (K : PySem.W.Frag) : R2 := fun x y H Q => rEqD K x y H Q ∨ rEq x y H Q
def rNeA (K : PySem.W.Frag) : R2 := fun x y H Q => rNeD K x y H Q ∨ rNe x y H Q
theorem op_eqA (hu : X.A.units + 64 < cLine) : OpR X (compareOp .Eq) (rEqA X.K) := OpR.or (op_eqD hu) op_eq
theorem op_neA (hu : X.A.units + 64 < cLine) : OpR X (compareOp .NotEq) (rNeA X.K) := OpR.or (op_neD hu) op_ne
theorem eqD_two {a b : D} {k : Bool} (h : eqD a b = some k) : (∃ x y, a = .str x ∧ b = .str y ∧ k = decide (x = y)) ∨ (SeqAt.shaped a = true ∧ SeqAt.shaped b = true ∧ k = PyData.eqv a b) := by
  unfold eqD at h
  split at h
  · exact .inl ⟨_, _, rfl, rfl, (Option.some.inj h).symm⟩
  · split at h
    · rename_i hl
      obtain ⟨h1, h2⟩ := Bool.and_eq_true_iff.mp hl
      exact .inr ⟨h1, h2, (Option.some.inj h).symm⟩
    · cases h
theorem dec_str (x y : Str) : decide (V.str x = V.str y) = decide (x = y) := by
  by_cases h : x = y
  · rw [h, decide_eq_true rfl, decide_eq_true rfl]
  · rw [decide_eq_false h, decide_eq_false fun z => h (V.str.inj z)]
theorem o2_eq : Op2 K (rEqA K) (fun a b => (cop .eq a b).map .bool) := fun F H x y a b d sb ha hb e Q q => by
  obtain ⟨k, hk, rfl⟩ := Option.map_eq_some_iff.mp (show (eqD a b).map PyData.bool = some d from e)
  rcases eqD_two hk with ⟨u, v, rfl, rfl, rfl⟩ | ⟨h1, h2, rfl⟩
  · cases ha; cases hb
    refine .inr ⟨rfl, ?_⟩
    rw [dec_str]
    exact q _ F H (Gr.refl sb) (.bl _)
  · exact .inl ⟨a, b, dv_dp sb _ _ ha, dv_dp sb _ _ hb, h1, h2, q _ F H (Gr.refl sb) (.bl _)⟩
theorem o2_ne : Op2 K (rNeA K) (fun a b => (cop .ne a b).map .bool) := fun F H x y a b d sb ha hb e Q q => by
  obtain ⟨k, hk, rfl⟩ := Option.map_eq_some_iff.mp (show ((eqD a b).map (!·)).map PyData.bool = some d from e)
  obtain ⟨k0, hk0, rfl⟩ := Option.map_eq_some_iff.mp hk
  rcases eqD_two hk0 with ⟨u, v, rfl, rfl, rfl⟩ | ⟨h1, h2, rfl⟩
  · cases ha; cases hb
    refine .inr ⟨rfl, ?_⟩
    rw [dec_str]
    exact q _ F H (Gr.refl sb) (.bl _)
  · exact .inl ⟨a, b, dv_dp sb _ _ ha, dv_dp sb _ _ hb, h1, h2, q _ F H (Gr.refl sb) (.bl _)⟩
/-- an order of ints and of texts -/
def rOrd (p : Int → Int → Bool) (z : Str → Str → Bool) : R2 := fun x y H Q => (rI0 fun i j => .bl (p i j)) x y H Q ∨ ∃ i j, x = .str i ∧ y = .str j ∧ Q (.bl (z i j)) H
theorem o2_ord {p : Int → Int → Bool} {z : Str → Str → Bool} {o : Cop} (h1 : ∀ i j, cop o (.int i) (.int j) = some (p i j)) (h2 : ∀ i j, cop o (.str i) (.str j) = some (z i j))
    (h3 : ∀ a b k, cop o a b = some k → (∃ i j, a = .int i ∧ b = .int j) ∨ ∃ i j, a = .str i ∧ b = .str j) : Op2 K (rOrd p z) (fun a b => (cop o a b).map .bool) := fun F H x y a b d sb ha hb e Q q => by
  obtain ⟨k, hk, rfl⟩ := Option.map_eq_some_iff.mp e
  rcases h3 a b k hk with ⟨i, j, rfl, rfl⟩ | ⟨i, j, rfl, rfl⟩
  · cases ha; cases hb
    rw [h1] at hk
    cases hk
    exact .inl ⟨i, j, rfl, rfl, q _ F H (Gr.refl sb) (.bl _)⟩
  · cases ha; cases hb
    rw [h2] at hk
    cases hk
    exact .inr ⟨i, j, rfl, rfl, q _ F H (Gr.refl sb) (.bl _)⟩
def rInA (K : PySem.W.Frag) (neg : Bool) : R2 := fun x y H Q => rIn K neg x y H Q ∨ ∃ (c : Nat) (z : Str), x = .str ⟨#[c]⟩ ∧ y = .str z ∧ Q (.bl (if neg then !decide (c ∈ z.cps.toList) else decide (c ∈ z.cps.toList))) H
theorem one_sign {x : Str} (h : (x.cps.size == 1) = true) : x = ⟨#[x.cps.getD 0 0]⟩ := by
  obtain ⟨⟨l⟩⟩ := x
  have h1 : l.length = 1 := by simpa using h
  match l, h1 with
  | [c], _ => rfl
theorem o2_in (neg : Bool) {o : Cop} (ho : ∀ a b, cop o a b = (inD a b).map (fun k => if neg then !k else k)) : Op2 K (rInA K neg) (fun a b => (cop o a b).map .bool) := fun F H x y a b d sb ha hb e Q q => by
  have e : (cop o a b).map PyData.bool = some d := e
  rw [ho] at e
  obtain ⟨k, hk, rfl⟩ := Option.map_eq_some_iff.mp e
  obtain ⟨k0, hk0, rfl⟩ := Option.map_eq_some_iff.mp hk
  cases hb with
  | @lst p xs ds hq hd =>
    obtain ⟨hl, rfl⟩ := if_some hk0
    · obtain ⟨h1, h2⟩ := Bool.and_eq_true_iff.mp hl
      refine .inl ⟨p, xs, rfl, .inl (.inl (.inl (sb _ _ hq))), flat_v ha h1, flats_v hd h2, ?_⟩
      rw [inV_F ha h1 hd h2]
      exact q _ F H (Gr.refl sb) (.bl _)
  | @tup p xs ds hq hd =>
    obtain ⟨hl, rfl⟩ := if_some hk0
    · obtain ⟨h1, h2⟩ := Bool.and_eq_true_iff.mp hl
      refine .inl ⟨p, xs, rfl, .inr (sqT_up sb hq), flat_v ha h1, flats_v hd h2, ?_⟩
      rw [inV_F ha h1 hd h2]
      exact q _ F H (Gr.refl sb) (.bl _)
  | str z =>
    cases ha with
    | str x =>
      obtain ⟨hl, rfl⟩ := if_some hk0
      · refine .inr ⟨x.cps.getD 0 0, z, congrArg V.str (one_sign hl), rfl, ?_⟩
        exact q _ F H (Gr.refl sb) (.bl _)
    | _ => cases hk0
  | _ => cases hk0
theorem or_in (neg : Bool) : OpR X (compareOp (if neg then .NotIn else .In)) (rInA X.K neg) := by
  cases neg with
  | false => exact OpR.or op_in_seq op_in_sign
  | true => exact OpR.or op_notIn_seq op_notIn_sign
theorem cop_ok (hu : X.A.units + 64 < cLine) (o : Cop) : ∃ r, OpR X (compareOp (cmpOf o)) r ∧ Op2 X.K r (fun a b => (cop o a b).map .bool) := by
  cases o with
  | eq => exact ⟨_, op_eqA hu, o2_eq⟩
  | ne => exact ⟨_, op_neA hu, o2_ne⟩
  | lt => exact ⟨_, OpR.or op_lt op_lt_str, o2_ord (fun _ _ => rfl) (fun _ _ => rfl) (fun a b k h => by cases a <;> cases b <;> first | exact .inl ⟨_, _, rfl, rfl⟩ | exact .inr ⟨_, _, rfl, rfl⟩ | cases h)⟩
  | le => exact ⟨_, OpR.or op_le op_le_str, o2_ord (fun _ _ => rfl) (fun _ _ => rfl) (fun a b k h => by cases a <;> cases b <;> first | exact .inl ⟨_, _, rfl, rfl⟩ | exact .inr ⟨_, _, rfl, rfl⟩ | cases h)⟩
  | gt => exact ⟨_, OpR.or op_gt op_gt_str, o2_ord (fun _ _ => rfl) (fun _ _ => rfl) (fun a b k h => by cases a <;> cases b <;> first | exact .inl ⟨_, _, rfl, rfl⟩ | exact .inr ⟨_, _, rfl, rfl⟩ | cases h)⟩
  | ge => exact ⟨_, OpR.or op_ge op_ge_str, o2_ord (fun _ _ => rfl) (fun _ _ => rfl) (fun a b k h => by cases a <;> cases b <;> first | exact .inl ⟨_, _, rfl, rfl⟩ | exact .inr ⟨_, _, rfl, rfl⟩ | cases h)⟩
  | isin => exact ⟨_, or_in false, o2_in false (fun a b => by show inD a b = _; cases inD a b <;> rfl)⟩
  | notin => exact ⟨_, or_in true, o2_in true (fun a b => rfl)⟩
end
end Qv

namespace Qv
open PySem PySem.Spec PyProof.Rows L2
section
variable {K : PySem.W.Frag} {X : Cx}
/-! ### subscripts, slices -/
theorem dvs_atI {F : Hp} {vs : List V} {ds : List D} {i : Int} {d : D} (h : DvAll K F vs ds) (e : atI ds i = some d) : ∃ v, atI vs i = some v ∧ Dv K F v d := by
  unfold atI at e ⊢
  rw [dvs_len h]
  cases hi : ixN ds.length i with
  | none => rw [hi] at e; cases e
  | some j =>
    rw [hi] at e
    exact dvs_get h e
theorem o2_ix : Op2 K (rIx K) ixD := fun F H x y a b d sb ha hb e Q q => by
  cases hb with
  | int i =>
    cases ha with
    | @lst p xs ds hq hd =>
      obtain ⟨v, h1, h2⟩ := dvs_atI hd (show atI ds i = some d from e)
      exact .inl ⟨p, xs, i, v, rfl, rfl, .inl (.inl (sb _ _ hq)), h1, q v F H (Gr.refl sb) h2⟩
    | @tup p xs ds hq hd =>
      obtain ⟨v, h1, h2⟩ := dvs_atI hd (show atI ds i = some d from e)
      exact .inr (.inl ⟨p, xs, i, v, rfl, rfl, sqT_up sb hq, h1, q v F H (Gr.refl sb) h2⟩)
    | str z =>
      have e' : (if lenOk z.length = true then (atI z.cps.toList i).map (fun c => PyData.str ⟨#[c]⟩) else none) = some d := e
      cases hl : lenOk z.length with
      | false => rw [hl] at e'; cases e'
      | true =>
        rw [hl] at e'
        obtain ⟨c, hc, rfl⟩ := Option.map_eq_some_iff.mp (show (atI z.cps.toList i).map (fun c => PyData.str ⟨#[c]⟩) = some d from e')
        exact .inr (.inr ⟨z, i, c, rfl, rfl, le_line (lenOk_le hl), hc, q _ F H (Gr.refl sb) (.str _)⟩)
    | _ => cases e
  | _ => cases ha <;> cases e
def rSlAll (K : PySem.W.Frag) : V → Option Int → Option Int → Hp → VK → Prop := fun x lo hi H Q => (rSlL K x lo hi H Q ∨ rSlA K x lo hi H Q) ∨ rSlS x lo hi H Q
theorem or_sl : SlR X (rSlAll X.K) := SlR.or (SlR.or sl_list sl_tupA) sl_str
theorem cut_len {α β : Type} {xs : List α} {ys : List β} (h : xs.length = ys.length) (lo hi : Option Int) : HT.sIx xs.length 0 lo = HT.sIx ys.length 0 lo ∧ HT.sIx xs.length xs.length hi = HT.sIx ys.length ys.length hi := by
  rw [h]
  exact ⟨rfl, rfl⟩
theorem dvs_cut {F : Hp} {vs : List V} {ds : List D} (h : DvAll K F vs ds) (lo hi : Option Int) : DvAll K F (cutV vs lo hi) (cut ds lo hi) := by
  unfold cutV cut
  rw [dvs_len h]
  exact dvs_take _ (dvs_drop _ h)
theorem cut_all {α : Type} {xs : List α} {lo hi : Option Int} (h1 : HT.sIx xs.length 0 lo = 0) (h2 : HT.sIx xs.length xs.length hi = xs.length) : cut xs lo hi = xs := by
  unfold cut
  rw [h1, h2]
  simp
theorem o_sl : ∀ F H x a lo hi d, Same F H → Dv K F x a → slD a lo hi = some d → ∀ Q : VK, (∀ v F' H', Gr none F H F' H' → Dv K F' v d → Q v H') → rSlAll K x lo hi H Q := fun F H x a lo hi d sb ha e Q q => by
  cases ha with
  | @lst p xs ds hq hd =>
    cases e
    refine .inl (.inl ⟨p, xs, rfl, .inl (.inl (sb _ _ hq)), fun r hr => ?_⟩)
    have g : Gr none F H (upd F r (.lst (cutV xs lo hi))) (upd H r (.lst (cutV xs lo hi))) := Gr.new sb hr
    exact q _ _ _ g (.lst upd_same (dvs_cut (dvs_up g.up _ _ hd) lo hi))
  | @tup p xs ds hq hd =>
    cases e
    refine .inl (.inr ⟨p, xs, rfl, sqT_up sb hq, fun z => ?_, fun _ r hr => ?_⟩)
    · have hl := cut_len (dvs_len hd) lo hi
      rw [hl.1, hl.2, dvs_len hd] at z
      refine q _ F H (Gr.refl sb) ?_
      rw [cut_all z.1 z.2]
      exact .tup hq hd
    · have g : Gr none F H (upd F r (.tup (cutV xs lo hi))) (upd H r (.tup (cutV xs lo hi))) := Gr.new sb hr
      exact q _ _ _ g (.tup (.inl (.inl upd_same)) (dvs_cut (dvs_up g.up _ _ hd) lo hi))
  | str z =>
    obtain ⟨hl, rfl⟩ := if_some e
    exact .inr ⟨z, rfl, le_line (lenOk_le hl), q _ F H (Gr.refl sb) (.str _)⟩
  | _ => cases e
/-! ### calls of built-ins -/
theorem dvs_one {F : Hp} {vs : List V} {d : D} (h : DvAll K F vs [d]) : ∃ v, vs = [v] ∧ Dv K F v d := by
  cases h with
  | cons h1 h2 =>
    cases h2
    exact ⟨_, rfl, h1⟩
theorem bi_one {b : Bi} : ∀ {ds : List D} {d : D}, bi b ds = some d → ∃ a, ds = [a]
  | [], _, h => by cases b <;> cases h
  | [a], _, _ => ⟨a, rfl⟩
  | a :: _ :: _, _, h => by cases b <;> cases a <;> cases h
theorem on_len : OpN K (fun xs H Q => ∃ x n, xs = [x] ∧ LenV K x H n ∧ Q (.int n) H) (bi .len) := fun F H vs ds d sb hd e Q q => by
  obtain ⟨a, rfl⟩ := bi_one e
  · obtain ⟨v, rfl, ha⟩ := dvs_one hd
    cases ha with
    | @lst p xs es hq h2 =>
      cases e
      refine ⟨_, xs.length, rfl, .inl ⟨xs, .inl (.inl (sb _ _ hq)), rfl⟩, ?_⟩
      rw [dvs_len h2]
      exact q _ F H (Gr.refl sb) (.int _)
    | @tup p xs es hq h2 =>
      cases e
      refine ⟨_, xs.length, rfl, .inr ⟨xs, sqT_up sb hq, rfl⟩, ?_⟩
      rw [dvs_len h2]
      exact q _ F H (Gr.refl sb) (.int _)
    | str z =>
      obtain ⟨hl, rfl⟩ := if_some e
      exact ⟨_, z.length, rfl, ⟨le_line (lenOk_le hl), rfl⟩, q _ F H (Gr.refl sb) (.int _)⟩
    | _ => cases e
theorem dvs_bools {F : Hp} : ∀ {ds : List D} {vs : List V} {bs : List Bool}, DvAll K F vs ds → boolsOf ds = some bs → vs = bs.map V.bl
  | [], _, _, h, e => by cases h; cases e; rfl
  | .bool b :: ds, _, bs, h, e => by
    cases h with
    | cons h1 h2 =>
      cases h1
      obtain ⟨cs, hc, rfl⟩ := Option.map_eq_some_iff.mp (show (boolsOf ds).map (b :: ·) = some bs from e)
      rw [dvs_bools h2 hc]
      rfl
  | .none :: _, _, _, _, e => by cases e
  | .int _ :: _, _, _, _, e => by cases e
  | .str _ :: _, _, _, _, e => by cases e
  | .list _ :: _, _, _, _, e => by cases e
  | .tuple _ :: _, _, _, _, e => by cases e
  | .dict _ :: _, _, _, _, e => by cases e
theorem dvs_strs {F : Hp} : ∀ {ds : List D} {vs : List V} {bs : List Str}, DvAll K F vs ds → strsOf ds = some bs → vs = bs.map V.str
  | [], _, _, h, e => by cases h; cases e; rfl
  | .str b :: ds, _, bs, h, e => by
    cases h with
    | cons h1 h2 =>
      cases h1
      obtain ⟨cs, hc, rfl⟩ := Option.map_eq_some_iff.mp (show (strsOf ds).map (b :: ·) = some bs from e)
      rw [dvs_strs h2 hc]
      rfl
  | .none :: _, _, _, _, e => by cases e
  | .int _ :: _, _, _, _, e => by cases e
  | .bool _ :: _, _, _, _, e => by cases e
  | .list _ :: _, _, _, _, e => by cases e
  | .tuple _ :: _, _, _, _, e => by cases e
  | .dict _ :: _, _, _, _, e => by cases e
theorem on_all : OpN K (rAll K) (bi .all) := fun F H vs ds d sb hd e Q q => by
  obtain ⟨a, rfl⟩ := bi_one e
  · obtain ⟨v, rfl, ha⟩ := dvs_one hd
    cases ha with
    | @lst p xs es hq h2 =>
      obtain ⟨bs, hb, rfl⟩ := Option.map_eq_some_iff.mp (show (boolsOf es).map (fun bs => PyData.bool (bs.all id)) = some d from e)
      refine ⟨p, bs, rfl, .inl (.inl ?_), q _ F H (Gr.refl sb) (.bl _)⟩
      rw [← dvs_bools h2 hb]
      exact sb _ _ hq
    | _ => cases e
theorem on_tuple : OpN K (fun xs H Q => ∃ p ys, xs = [.ref p] ∧ ((SqL K H p ys ∧ ∀ l, H l = none → Q (.ref l) (upd H l (.tup ys))) ∨ (SqT K H p ys ∧ Q (.ref p) H))) (bi .tuple) := fun F H vs ds d sb hd e Q q => by
  obtain ⟨a, rfl⟩ := bi_one e
  · obtain ⟨v, rfl, ha⟩ := dvs_one hd
    cases ha with
    | @lst p xs es hq h2 =>
      cases e
      refine ⟨p, xs, rfl, .inl ⟨.inl (.inl (sb _ _ hq)), fun l hl => ?_⟩⟩
      have g : Gr none F H (upd F l (.tup xs)) (upd H l (.tup xs)) := Gr.new sb hl
      exact q _ _ _ g (.tup (.inl (.inl upd_same)) (dvs_up g.up _ _ h2))
    | @tup p xs es hq h2 =>
      cases e
      exact ⟨p, xs, rfl, .inr ⟨sqT_up sb hq, q _ F H (Gr.refl sb) (.tup hq h2)⟩⟩
    | _ => cases e
theorem on_list : OpN K (fun xs H Q => ∃ p ys, xs = [.ref p] ∧ (SqL K H p ys ∨ SqT K H p ys) ∧ ∀ l, H l = none → Q (.ref l) (upd H l (.lst ys))) (bi .list) := fun F H vs ds d sb hd e Q q => by
  obtain ⟨a, rfl⟩ := bi_one e
  · obtain ⟨v, rfl, ha⟩ := dvs_one hd
    cases ha with
    | @lst p xs es hq h2 =>
      cases e
      refine ⟨p, xs, rfl, .inl (.inl (.inl (sb _ _ hq))), fun l hl => ?_⟩
      have g : Gr none F H (upd F l (.lst xs)) (upd H l (.lst xs)) := Gr.new sb hl
      exact q _ _ _ g (.lst upd_same (dvs_up g.up _ _ h2))
    | @tup p xs es hq h2 =>
      cases e
      refine ⟨p, xs, rfl, .inr (sqT_up sb hq), fun l hl => ?_⟩
      have g : Gr none F H (upd F l (.lst xs)) (upd H l (.lst xs)) := Gr.new sb hl
      exact q _ _ _ g (.lst upd_same (dvs_up g.up _ _ h2))
    | _ => cases e
theorem on_int : OpN K (fun xs H Q => (∃ i, xs = [.int i] ∧ Q (.int i) H) ∨ ∃ k, xs = [.bl k] ∧ Q (.int (if k then 1 else 0)) H) (bi .int) := fun F H vs ds d sb hd e Q q => by
  obtain ⟨a, rfl⟩ := bi_one e
  · obtain ⟨v, rfl, ha⟩ := dvs_one hd
    cases ha with
    | int i => cases e; exact .inl ⟨i, rfl, q _ F H (Gr.refl sb) (.int _)⟩
    | bl k => cases e; exact .inr ⟨k, rfl, q _ F H (Gr.refl sb) (.int _)⟩
    | _ => cases e
theorem callR_or {f : Value} {r r' : List V → Hp → VK → Prop} (h : CallR X f r) (h' : CallR X f r') : CallR X f (fun x H Q => r x H Q ∨ r' x H Q) := by
  intro pins s σ H xs us Q I rx h0
  rcases h0 with h0 | h0
  · exact h pins s σ H xs us Q I rx h0
  · exact h' pins s σ H xs us Q I rx h0
theorem on_str : OpN K (fun xs H Q => (∃ i, xs = [.int i] ∧ i.natAbs.log2 < 1920 ∧ Q (.str (toString i)) H) ∨ ∃ a, xs = [.str a] ∧ Q (.str a) H) (bi .str) := fun F H vs ds d sb hd e Q q => by
  obtain ⟨a, rfl⟩ := bi_one e
  · obtain ⟨v, rfl, ha⟩ := dvs_one hd
    cases ha with
    | int i =>
      obtain ⟨hl, rfl⟩ := if_some e
      exact .inl ⟨i, rfl, of_decide_eq_true hl, q _ F H (Gr.refl sb) (.str _)⟩
    | str k => cases e; exact .inr ⟨k, rfl, q _ F H (Gr.refl sb) (.str _)⟩
    | _ => cases e
/-! ### isinstance -/
def tyName : Ty → String
  | .int => "int"
  | .bool => "bool"
  | .str => "str"
  | .tuple => "tuple"
  | .list => "list"
theorem tyX_v {F H : Hp} {v : V} {d : D} (sb : Same F H) (h : Dv K F v d) (t : Ty) : ∃ u : Value, TyX K H v u ∧ PySem.W.kitOne K u (.type (tyName t)) = some (tyD d t) := by
  cases h with
  | non => exact ⟨_, .base .non, by cases t <;> first | exact kit_ty (show kitB "NoneType" "int" = some false by decide +kernel) | exact kit_ty (show kitB "NoneType" "bool" = some false by decide +kernel) | exact kit_ty (show kitB "NoneType" "str" = some false by decide +kernel) | exact kit_ty (show kitB "NoneType" "tuple" = some false by decide +kernel) | exact kit_ty (show kitB "NoneType" "list" = some false by decide +kernel)⟩
  | bl b => exact ⟨_, .base (.bl b), by cases t <;> first | exact kit_ty (show kitB "bool" "int" = some true by decide +kernel) | exact kit_ty (show kitB "bool" "bool" = some true by decide +kernel) | exact kit_ty (show kitB "bool" "str" = some false by decide +kernel) | exact kit_ty (show kitB "bool" "tuple" = some false by decide +kernel) | exact kit_ty (show kitB "bool" "list" = some false by decide +kernel)⟩
  | int b => exact ⟨_, .base (.int b), by cases t <;> first | exact kit_ty (show kitB "int" "int" = some true by decide +kernel) | exact kit_ty (show kitB "int" "bool" = some false by decide +kernel) | exact kit_ty (show kitB "int" "str" = some false by decide +kernel) | exact kit_ty (show kitB "int" "tuple" = some false by decide +kernel) | exact kit_ty (show kitB "int" "list" = some false by decide +kernel)⟩
  | str b => exact ⟨_, .base (.str b), by cases t <;> first | exact kit_ty (show kitB "str" "int" = some false by decide +kernel) | exact kit_ty (show kitB "str" "bool" = some false by decide +kernel) | exact kit_ty (show kitB "str" "str" = some true by decide +kernel) | exact kit_ty (show kitB "str" "tuple" = some false by decide +kernel) | exact kit_ty (show kitB "str" "list" = some false by decide +kernel)⟩
  | lst hq _ => exact ⟨_, .base (.lst (sb _ _ hq)), by cases t <;> first | exact kit_ty (show kitB "list" "int" = some false by decide +kernel) | exact kit_ty (show kitB "list" "bool" = some false by decide +kernel) | exact kit_ty (show kitB "list" "str" = some false by decide +kernel) | exact kit_ty (show kitB "list" "tuple" = some false by decide +kernel) | exact kit_ty (show kitB "list" "list" = some true by decide +kernel)⟩
  | @tup a xs ds hq _ =>
    have e : ∀ t : Ty, PySem.W.kitOne K (.type "tuple") (.type (tyName t)) = some (tyD (.tuple ds) t) := fun t => by cases t <;> first | exact kit_ty (show kitB "tuple" "int" = some false by decide +kernel) | exact kit_ty (show kitB "tuple" "bool" = some false by decide +kernel) | exact kit_ty (show kitB "tuple" "str" = some false by decide +kernel) | exact kit_ty (show kitB "tuple" "tuple" = some true by decide +kernel) | exact kit_ty (show kitB "tuple" "list" = some false by decide +kernel)
    rcases hq with (hq | ⟨o, hq⟩) | ⟨o, its, n, hk, hc, _⟩
    · exact ⟨_, .base (.tup (sb _ _ hq)), e t⟩
    · exact ⟨_, .fTuple (sb _ _ hq), e t⟩
    · exact ⟨_, .kTuple hk hc, e t⟩
end
end Qv

namespace Qv
open PySem PySem.Spec PyProof.Rows L2
section
variable {K : PySem.W.Frag} {X : Cx}
/-! ### repr -/
def rRepr (K : PySem.W.Frag) : List V → Hp → VK → Prop := fun xs H Q => ∃ a d, xs = [.ref a] ∧ Dp K H (.ref a) d ∧ reprOk d = true ∧ Q (.str d.shown) H
theorem cr_repr (hg : X.A.guards = some []) (hu : X.A.units + 64 < cLine) : CallR X (.builtin "repr") (rRepr X.K) := by
  intro pins s σ H xs us Q I r h
  obtain ⟨a, d, rfl, hd, ok, q⟩ := h
  obtain ⟨u, rfl, rx⟩ := vals1 r
  obtain ⟨as, rd⟩ := Dp.reads I d _ u hd rx
  cases rx
  unfold reprOk at ok
  obtain ⟨_, ok⟩ := Bool.and_eq_true_iff.mp ok
  obtain ⟨o1, ok⟩ := Bool.and_eq_true_iff.mp ok
  obtain ⟨o2, ok⟩ := Bool.and_eq_true_iff.mp ok
  obtain ⟨o3, o4⟩ := Bool.and_eq_true_iff.mp ok
  have hd2 : d.hasDict = false := by
    cases e : d.hasDict with
    | false => rfl
    | true => rw [e] at o2; cases o2
  have h3 : d.depth ≤ 60 := of_decide_eq_true o3
  have h4 : d.shown.length ≤ 16000000 := of_decide_eq_true o4
  refine repr_of_reads' rd o1 (PyData.noDict_hsm hd2) hg (by omega) (fun _ _ e => e) (fun h' u tk hk => ?_) (Nat.le_trans h4 (by rw [sizeLine_eq]; decide))
  exact ⟨.str d.shown, H, I.kept hk, ⟨_, rfl⟩, q⟩
theorem on_repr : OpN K (rRepr K) (bi .repr) := fun F H vs ds d sb hd e Q q => by
  obtain ⟨a, rfl⟩ := bi_one e
  obtain ⟨v, rfl, ha⟩ := dvs_one hd
  have e' : (if reprOk a = true then some (PyData.str a.shown) else none) = some d := by cases a <;> exact e
  obtain ⟨hl, rfl⟩ := if_some e'
  have hp := dv_dp sb _ _ ha
  cases ha with
  | lst _ _ => exact ⟨_, _, rfl, hp, hl, q _ F H (Gr.refl sb) (.str _)⟩
  | tup _ _ => exact ⟨_, _, rfl, hp, hl, q _ F H (Gr.refl sb) (.str _)⟩
  | _ => cases hl
/-! ### sorted of texts -/
theorem ltS_irr (x : Str) : ltS x x = false := decide_eq_false (List.lt_irrefl _)
theorem leS_anti {x y : Str} (h1 : ltS y x = false) (h2 : ltS x y = false) : x = y := by
  have a : ¬ y.cps.toList < x.cps.toList := of_decide_eq_false h1
  have b : ¬ x.cps.toList < y.cps.toList := of_decide_eq_false h2
  have e : x.cps.toList = y.cps.toList := List.le_antisymm (List.not_lt.mp a) (List.not_lt.mp b)
  obtain ⟨⟨l⟩⟩ := x
  obtain ⟨⟨m⟩⟩ := y
  have e' : l = m := e
  rw [e']
theorem leS_trans {x y z : Str} (h1 : ltS y x = false) (h2 : ltS z y = false) : ltS z x = false := by
  have a : ¬ y.cps.toList < x.cps.toList := of_decide_eq_false h1
  have b : ¬ z.cps.toList < y.cps.toList := of_decide_eq_false h2
  exact decide_eq_false (List.not_lt.mpr (List.le_trans (List.not_lt.mp a) (List.not_lt.mp b)))
theorem leS_total (x y : Str) : ltS y x = false ∨ ltS x y = false := by
  rcases List.le_total (x.cps.toList) (y.cps.toList) with h | h
  · exact .inl (decide_eq_false (List.not_lt.mpr h))
  · exact .inr (decide_eq_false (List.not_lt.mpr h))
theorem ins_perm (x : Str) : ∀ l : List Str, (insS x l).Perm (x :: l)
  | [] => .refl _
  | y :: r => by
    unfold insS
    split
    · exact ((ins_perm x r).cons y).trans (.swap x y r)
    · exact .refl _
theorem sort_perm : ∀ l : List Str, (sortS l).Perm l
  | [] => .refl _
  | x :: r => (ins_perm x (sortS r)).trans ((sort_perm r).cons x)
theorem ins_sorted (x : Str) : ∀ l : List Str, l.Pairwise (fun a b => ltS b a = false) → (insS x l).Pairwise (fun a b => ltS b a = false)
  | [], _ => by simp [insS]
  | y :: r, h => by
    obtain ⟨h1, h2⟩ := List.pairwise_cons.mp h
    unfold insS
    split
    · rename_i hl
      refine List.pairwise_cons.mpr ⟨fun z hz => ?_, ins_sorted x r h2⟩
      rcases List.mem_cons.mp ((ins_perm x r).mem_iff.mp hz) with e | e
      · subst e
        rcases leS_total y z with q | q
        · exact q
        · rw [q] at hl; cases hl
      · exact h1 z e
    · rename_i hl
      have hl' : ltS y x = false := by
        cases e : ltS y x with
        | false => rfl
        | true => exact absurd e hl
      refine List.pairwise_cons.mpr ⟨fun z hz => ?_, h⟩
      rcases List.mem_cons.mp hz with e | e
      · subst e; exact hl'
      · exact leS_trans hl' (h1 z e)
theorem sort_sorted : ∀ l : List Str, (sortS l).Pairwise (fun a b => ltS b a = false)
  | [] => .nil
  | x :: r => ins_sorted x _ (sort_sorted r)
theorem rising_pw : ∀ (l : List Str) (p : Str), risingS p l = true → (p :: l).Pairwise (fun a b => ltS b a = false)
  | [], p, _ => by simp
  | x :: r, p, h => by
    have h' : (!ltCps x.cps.toList p.cps.toList && risingS x r) = true := h
    obtain ⟨h1, h2⟩ := Bool.and_eq_true_iff.mp h'
    have ih := rising_pw r x h2
    have hxp : ltS x p = false := by
      rw [ltCps_eq] at h1
      show decide _ = false
      cases e : decide (x.cps.toList < p.cps.toList) with
      | false => rfl
      | true => rw [e] at h1; cases h1
    refine List.pairwise_cons.mpr ⟨fun z hz => ?_, ih⟩
    rcases List.mem_cons.mp hz with e | e
    · subst e; exact hxp
    · exact leS_trans hxp ((List.pairwise_cons.mp ih).1 z e)
theorem sorted_eq {ys zs : List Str} (hp : ys.Perm zs) (hs : sortedS ys = true) : ys = sortS zs := by
  have h1 : ys.Pairwise (fun a b => ltS b a = false) := by
    cases ys with
    | nil => exact .nil
    | cons x r => exact rising_pw r x hs
  exact List.Perm.eq_of_pairwise (fun a b _ _ h1 h2 => leS_anti h1 h2) h1 (sort_sorted zs) (hp.trans (sort_perm zs).symm)
theorem dvs_ofStrs {F : Hp} : ∀ zs : List Str, DvAll K F (zs.map V.str) (zs.map .str)
  | [] => .nil
  | z :: r => .cons (.str z) (dvs_ofStrs r)
theorem on_sorted : OpN K (rSortedS K) (bi .sorted) := fun F H vs ds d sb hd e Q q => by
  obtain ⟨a, rfl⟩ := bi_one e
  obtain ⟨v, rfl, ha⟩ := dvs_one hd
  cases ha with
  | @lst p xs es hq h2 =>
    have e' : (match strsOf es with
      | some zs => if decide (zs.length < 64) then some (PyData.list ((sortS zs).map .str)) else none
      | none => none) = some d := e
    cases hz : strsOf es with
    | none => rw [hz] at e'; cases e'
    | some zs =>
      rw [hz] at e'
      obtain ⟨hl, rfl⟩ := if_some e'
      have ex := dvs_strs h2 hz
      subst ex
      refine ⟨p, zs, rfl, .inl (.inl (sb _ _ hq)), of_decide_eq_true hl, fun ys r hp hs hr => ?_⟩
      rw [sorted_eq hp hs]
      have g : Gr none F H (upd F r (.lst ((sortS zs).map V.str))) (upd H r (.lst ((sortS zs).map V.str))) := Gr.new sb hr
      exact q _ _ _ g (.lst upd_same (dvs_ofStrs _))
  | _ => cases e
/-! ### list.index -/
theorem idx_ok {F : Hp} {v : V} {a : D} (h1 : Dv K F v a) (fa : flat a = true) : ∀ {ds : List D} {vs : List V} {j : Nat}, DvAll K F vs ds → ds.all flat = true → idxF a ds = some j →
    ∃ z, vs[j]? = some z ∧ eqV z v = true ∧ ∀ (m : Nat) (z' : V), m < j → vs[m]? = some z' → eqV z' v = false
  | [], _, _, _, _, e => by cases e
  | y :: r, _, j, h, f, e => by
    cases h with
    | cons h2 h3 =>
      rw [List.all_cons, Bool.and_eq_true_iff] at f
      have he := eqV_F h2 h1 f.1 fa
      have e' : (if eqF y a = true then some 0 else (idxF a r).map (· + 1)) = some j := e
      split at e'
      · rename_i hy
        cases e'
        exact ⟨_, rfl, he.trans hy, fun m z' hm => absurd hm (Nat.not_lt_zero m)⟩
      · rename_i hy
        obtain ⟨k, hk, rfl⟩ := Option.map_eq_some_iff.mp e'
        obtain ⟨z, q1, q2, q3⟩ := idx_ok h1 fa h3 f.2 hk
        refine ⟨z, by simpa using q1, q2, fun m z' hm hz => ?_⟩
        cases m with
        | zero =>
          have : some _ = some z' := hz
          cases this
          rw [he]
          cases e2 : eqF y a with
          | false => rfl
          | true => exact absurd e2 hy
        | succ m => exact q3 m z' (by omega) (by simpa using hz)
/-- a method on values, as one on data -/
def OpM (K : PySem.W.Frag) (r : V → List V → Hp → VK → Prop) (f : D → List D → Option D) : Prop := ∀ F H x vs a ds d, Same F H → Dv K F x a → DvAll K F vs ds → f a ds = some d → ∀ Q : VK,
  (∀ v F' H', Gr none F H F' H' → Dv K F' v d → Q v H') → r x vs H Q
theorem om_index : OpM K (rIndex K) (mth .index) := fun F H x vs a ds d sb ha hd e Q q => by
  cases ha with
  | @lst p xs es hq h2 =>
    match ds, hd, e with
    | [b], hd, e =>
      obtain ⟨v, rfl, hb⟩ := dvs_one hd
      have e' : (if (flat b && es.all flat) = true then (idxF b es).map (fun j => PyData.int (j : Nat)) else none) = some d := e
      cases hf : (flat b && es.all flat) with
      | false => rw [hf] at e'; cases e'
      | true =>
        rw [hf] at e'
        obtain ⟨f1, f2⟩ := Bool.and_eq_true_iff.mp hf
        obtain ⟨j, hj, rfl⟩ := Option.map_eq_some_iff.mp (show (idxF b es).map (fun j => PyData.int (j : Nat)) = some d from e')
        obtain ⟨z, q1, q2, q3⟩ := idx_ok hb f1 h2 f2 hj
        exact ⟨p, xs, v, j, z, rfl, rfl, .inl (.inl (sb _ _ hq)), flat_v hb f1, flats_v h2 f2, q1, q2, q3, q _ F H (Gr.refl sb) (.int _)⟩
    | [], _, e => cases e
    | _ :: _ :: _, _, e => cases e
  | _ =>
    match ds, e with
    | [], e => cases e
    | [_], e => cases e
    | _ :: _ :: _, e => cases e
end
end Qv

/-! enumerate of a tuple -/
namespace PySem
open Sem (wp)
theorem meets_enum1 {v : Value} {o : Obj} {G : Heap → Prop} (B : Begins v o G) :
    Meets (Builtin.«enumerate.__new__» ⟨[.type "enumerate", v], []⟩) (fun _ R s => G s.heap ∧
      R (.ok (.ret (.ref (s.heap.push o).objs.size))) { s with heap := (s.heap.push o).push { cls := .type "enumerate", data := .fields #[.none, .bool false, .ref s.heap.objs.size, rawInt 0, .none, .none] } }) :=
  .of_wp fun prog w A R s h => by
    obtain ⟨hp, g, d, tk, os⟩ := s
    obtain ⟨h1, h⟩ := h
    have hsub := sub_enumerate
    have it1 : ∀ {A' : Around} {E : Value → Shared → Prop} {Q : Value → Shared → Prop}, Q (.ref hp.objs.size) ⟨hp.push o, g, d, tk, os⟩ → wpAny (model prog w) A' (pyIter v) Q E ⟨hp, g, d, tk, os⟩ :=
      fun z => B.iter prog w _ _ ⟨hp, g, d, tk, os⟩ _ h1 z
    wp_walk using it1
    refine wpAny_stack_any fun st => wpAny_pure ?_
    split
    · rename_i c _ _ _ _ _
      cases (c == Value.type "enumerate") <;> (wp_walk using it1; exact ⟨_, rfl, h⟩)
    · wp_walk using it1
      exact ⟨_, rfl, h⟩
theorem call_enum1 {prog : Program} {w : World} {A : Around} {E : Value → Shared → Prop} {s : Shared} {v : Value} {o : Obj} {G : Heap → Prop} {Q : Value → Shared → Prop} (B : Begins v o G) (h1 : G s.heap)
    (h : ∀ hp', IsEnum hp' (s.heap.objs.size + 1) s.heap.objs.size 0 .none → hp'.get? s.heap.objs.size = some o → (∀ b u, s.heap.get? b = some u → hp'.get? b = some u) → Q (.ref (s.heap.objs.size + 1)) { s with heap := hp' }) :
    wpAny (model prog w) A (call (.type "enumerate") [v]) Q E s := by
  refine callType_new F.called_enumerate (by decide) (F.typeCall_enumerate_1 _) (F.newCall_enumerate_1 _) (fun ob => F.args_object_init_2 ob _) F.entry_enumerate_new (meets_enum1 B) ⟨h1, ?_⟩
  have hz : (s.heap.push o).objs.size = s.heap.objs.size + 1 := Heap.size_push ..
  show _ ∧ _
  rw [hz]
  have he : IsEnum ((s.heap.push o).push { cls := .type "enumerate", data := .fields #[.none, .bool false, .ref s.heap.objs.size, rawInt 0, .none, .none] }) (s.heap.objs.size + 1) s.heap.objs.size 0 .none := by
    have z := Heap.get?_push_size (s.heap.push o) (o := { cls := .type "enumerate", data := .fields #[.none, .bool false, .ref s.heap.objs.size, rawInt 0, .none, .none] }) rfl
    rw [hz] at z
    exact z
  exact ⟨⟨_, he, rfl⟩, h _ he (Heap.get?_push_of_some _ (Heap.get?_push_size _ B.free)) fun b u x => Heap.get?_push_of_some _ (Heap.get?_push_of_some _ x)⟩
end PySem
namespace Qv
open PySem PySem.Spec PyProof.Rows L2
/-- the tuple at a, each item in a new pair with its place -/
def Iet (K : PySem.W.Frag) (a : Addr) : L2.It :=
  ⟨fun i H => ∃ (xs : List V) (x : V), SqT K H a xs ∧ xs[i]? = some x, fun i H v H' => ∃ T x, v = .ref T ∧ H T = none ∧ H' = upd H T (.tup [.int (i : Nat), x]) ∧ ∀ xs, SqT K H a xs → xs[i]? = some x,
    fun i H => ∃ xs : List V, SqT K H a xs ∧ xs.length = i⟩
theorem turn_iet {P : Program} {w : World} {K : PySem.W.Frag} {elts : List Expr} {kk : Nat} {tpos : Pos} (a e it : Addr) (hat : a ≠ it) (hae : a ≠ e) :
    Turn P w K (.Tuple elts kk tpos) (Iet K a) [e, it] e (fun i h => (∃ old, IsEnum h e it ((i : Nat) : Int) old) ∧ h.IsTupleIter it a i ∧ e ≠ it) where
  mem := by simp
  obj := fun i h st b hb => by
    obtain ⟨⟨old, he⟩, ⟨o, ho, hc, hd⟩, _⟩ := st
    rcases (show b = e ∨ b = it by simpa using hb) with z | z
    · rw [z]
      exact ⟨_, he, fun v q => nomatch q⟩
    · rw [z]
      exact ⟨o, ho, fun v q => by rw [hd] at q; cases q⟩
  keep := fun i h h' st k => let ⟨⟨old, he⟩, hi, hne⟩ := st; ⟨⟨old, k e (by simp) _ he⟩, hi.at fun o q => k it (by simp) o q, hne⟩
  item := by
    intro X hP hw hK hc i pins s σ H E I hf st hg
    subst hP hw hK
    obtain ⟨⟨old, he⟩, hit, hne⟩ := st
    obtain ⟨xs, x, hq, hx⟩ := hg
    obtain ⟨its, rv, p, hz⟩ := I.tuple hq
    obtain ⟨u, hu, ru⟩ := rv.get hx
    have hel : e < s.heap.objs.size := Heap.lt_size he
    have hil : it < s.heap.objs.size := by
      obtain ⟨_, q, _⟩ := hit
      exact Heap.lt_size q
    have Dr := Draws.tuple (prog := X.prog) (w := X.w) (A := X.A.in1) (I.ok.hd hc) it a hat its.toArray
    have hlt : i < its.toArray.size := by
      have := List.getElem?_eq_some_iff.mp hu
      simpa using this.1
    refine wpAny_pyNext_enum_itemC (c := ((i : Nat) : Int)) Dr he ⟨hit, p⟩ hlt hne (by simp [hne, Ne.symm hae]) fun x0 h' tk hP ho hst hT hsz hk => ?_
    have ex : x0 = u := by
      have z : its[i]? = some x0 := by simpa using hP
      rw [hu] at z
      exact (Option.some.inj z).symm
    subst ex
    refine ⟨_, rfl, wpAny_letOwnedTupleGo_enum (s := { s with heap := h', toks := tk + 1 }) ho fun h2 he' sb => ?_⟩
    have hT2 : h2.get? s.heap.objs.size = some { cls := .type "tuple", data := .seq #[.int i tk, x0] } := (sb.2 _ (Nat.ne_of_gt hel)).trans hT
    have new : ObjOk X.prog X.w (upd H s.heap.objs.size (.tup [.int (i : Nat), x])) h2 s.heap.objs.size (.tup [.int (i : Nat), x]) :=
      ⟨by show 2 ≤ sizeLine; decide, [.int i tk, x0], .cons ⟨_, rfl⟩ (.cons ru .nil), ⟨_, hT2, rfl, _, rfl⟩⟩
    have I1 : Inv X pins σ (upd H s.heap.objs.size (.tup [.int (i : Nat), x])) { s with heap := h2, toks := tk + 1 } := by
      refine I.turnedNew (ch := [e, it]) (fun b ob hb q => ?_) hf (Nat.le_refl _) new
      have n1 : b ≠ e := fun z => hb (by simp [z])
      have n2 : b ≠ it := fun z => hb (by simp [z])
      exact (sb.2 b n1).trans (hk b ob n1 n2 q)
    refine ⟨.ref s.heap.objs.size, _, I1, rfl, ⟨_, x, rfl, I.hok.fresh (Nat.le_refl _), rfl, fun ys hy => by rw [I.tuple_inj hy hq]; exact hx⟩, ⟨⟨x0, ?_⟩, hst.1.at fun o q => (sb.2 it (Ne.symm hne)).trans q, hne⟩, fun b hb => ?_⟩
    · rw [show ((i + 1 : Nat) : Int) = (i : Int) + 1 by omega]
      exact he'
    · have hb' : b < s.heap.objs.size := by
        rcases (show b = e ∨ b = it by simpa using hb) with z | z
        · rw [z]; exact hel
        · rw [z]; exact hil
      rw [upd_ne (Nat.ne_of_lt hb')]
      exact (hf b hb).1
  done := by
    intro X hP hw hK hc i pins s σ H E I hf st hg
    subst hP hw hK
    obtain ⟨⟨old, he⟩, hit, hne⟩ := st
    obtain ⟨xs, hq, hx⟩ := hg
    obtain ⟨its, rv, p, hz⟩ := I.tuple hq
    obtain ⟨f0, f1, f2, f3, f4, f5⟩ := hf it (by simp)
    have hl : i = its.toArray.size := by
      rw [← hx, rv.length]
      simp
    subst hl
    have Dr := Draws.tuple (prog := X.prog) (w := X.w) (A := X.A.in1) (I.ok.hd hc) it a hat its.toArray
    exact wpAny_pyNext_enum_endD Dr he ⟨hit, p⟩ fun h' eb => ⟨rfl, I.turned (t' := s.toks) (fun b o hb q => eb b o hb q) f0 f1 f3 f4 f5⟩
  self := fun A i s Q E st h => let ⟨⟨_, he⟩, _⟩ := st; wpAny_pyIter_enum he h
def iEnmT (K : PySem.W.Frag) (ta : TA) : TI := fun σ H R => ta σ H fun vs H1 => ∃ a xs, vs = [.ref a] ∧ SqT K H1 a xs ∧ R (Iet K a) H1
theorem pi_enmT {X : Cx} {e : Expr} {ta : TA} {p pos tpos : Pos} {elts : List Expr} {kk : Nat} (hg : Gl X "enumerate") (hm : X.mg "enumerate" = none) (ha : PA X [e] ta) (hs : starEach [e] X.env = [(false, eval e X.env)]) :
    PI X (.Tuple elts kk tpos) (.Call (.Name "enumerate" p) [e] [] pos) (iEnmT X.K ta) := by
  refine ⟨fun pins s σ H R I h => ?_⟩
  refine Call_ (ld_blt I hg hm boot_enumerate (PyProof.Rows.callWith_type1 (thn (ha.run pos pins s σ H _ I h) fun us s1 ⟨vs, H1, I1, r1, q1⟩ => ?_) hs rfl))
  obtain ⟨a, xs, ex, hq, q⟩ := q1
  subst ex
  cases r1 with
  | cons r rr =>
    cases rr
    cases r
    obtain ⟨its, rv, pt, hz⟩ := I1.tuple hq
    have hlt : a < s1.heap.objs.size := by
      obtain ⟨o, e, _⟩ := pt
      exact Heap.lt_size e
    refine call_enum1 (begins_tuple a its.toArray) pt fun hp' he ho hk => wpAny_pyIter_enum he ?_
    have I2 : Inv X pins σ H1 { s1 with heap := hp' } := I1.kept (t' := s1.toks) hk
    refine ⟨s1.heap.objs.size + 1, [s1.heap.objs.size + 1, s1.heap.objs.size], _, _, H1, rfl, I2, turn_iet a (s1.heap.objs.size + 1) s1.heap.objs.size (Nat.ne_of_lt hlt) (Nat.ne_of_lt (Nat.lt_succ_of_lt hlt)), ⟨⟨.none, he⟩, ⟨_, ho, rfl, rfl⟩, Nat.succ_ne_self _⟩, fun b hb => ?_, q⟩
    have hle : s1.heap.objs.size ≤ b := by
      rcases (show b = s1.heap.objs.size + 1 ∨ b = s1.heap.objs.size by simpa using hb) with z | z
      · rw [z]; exact Nat.le_succ _
      · rw [z]; exact Nat.le_refl _
    exact I1.fpOk hle (I1.hok.fresh hle)
end Qv

namespace Qv
open PySem PySem.Spec PyProof.Rows L2
/-! ### contexts: what stays in a def, what changes from block to block -/
structure B where
  prog : Program
  w : World
  K : PySem.W.Frag
  mg : Str → Option Value
  base : Heap
  A : Around
  N : List Str
  stack : List PySem.Env
structure Vr where
  s_0 : Shared
  H_0 : Hp
  env : PySem.Env
  outer : List PySem.Env
  ex : List Addr
  fn : Str → Bool
  pn : List (Addr × Obj)
  xe : Value → Shared → Prop
def mk (b : B) (v : Vr) : Cx where
  prog := b.prog
  w := b.w
  K := b.K
  mg := b.mg
  base := b.base
  A := b.A
  N := b.N
  s_0 := v.s_0
  H_0 := v.H_0
  env := v.env
  outer := v.outer
  stack := b.stack
  ex := v.ex
  fn := v.fn
  calm := true
  pn := v.pn
  xe := v.xe
/-! ### defs, where no repr is under way -/
structure FnG (P : Program) (w : World) (K : PySem.W.Frag) (mg : Str → Option Value) (base : Heap) (CX : CXT) (k : Nat) (f : Addr) (fd : FuncData) (ps : List Str) (sp : Sp) : Prop where
  len : ∀ vs H Q E, sp vs H Q E → vs.length = ps.length
  run : ∀ (A : Around) (out : List PySem.Env) (s : Shared) (H : Hp) (args : Args) (us : List Value) (vs : List V) (Q : VK) (E : XK), Room k A → A.guards = some [] →
    Env0 P w K mg base A out s H → BindsTo s fd args (ps.zip us) → Vals vs us → sp vs H Q E → codeAny (model P w) A (.call (.ref f) args) (CR CX out P w H s Q E) s
section
variable {P : Program} {w : World} {K : PySem.W.Frag} {mg : Str → Option Value} {base : Heap} {CX : CXT} {k : Nat} {f : Addr} {fd : FuncData} {ps N : List Str} {sp : Sp}
theorem FnG.mono {j : Nat} (F : FnG P w K mg base CX j f fd ps sp) (h : j ≤ k) : FnG P w K mg base CX k f fd ps sp :=
  ⟨F.len, fun A out s H args us vs Q E r => F.run A out s H args us vs Q E (r.mono h)⟩
theorem FnG.imp {sp' : Sp} (F : FnG P w K mg base CX k f fd ps sp) (h : ∀ vs H Q E, sp' vs H Q E → sp vs H Q E) : FnG P w K mg base CX k f fd ps sp' :=
  ⟨fun vs H Q E q => F.len vs H Q E (h _ _ _ _ q), fun A out s H args us vs Q E r g e b v q => F.run A out s H args us vs Q E r g e b v (h _ _ _ _ q)⟩
/-- a def of the text, by its body -/
theorem FnG.of {x qual : Str} {params : Arguments} {body : List Stmt} {scope : Scope} {dvs : List V} {kws : List (Str × V)} (D : FunD K x qual params body scope dvs kws f fd) (S : FnScope N ps scope)
    (len : ∀ vs H Q E, sp vs H Q E → vs.length = ps.length)
    (hb : ∀ (cd : Value) (A : Around) (out : List PySem.Env) (s : Shared) (H : Hp) (vs : List V) (Q : VK) (E : XK), Room k (A.deeper (envOfC qual scope s.heap.objs.size f cd)) → A.guards = some [] →
      sp vs H Q E → ∃ t, PSs (cxOf CX P w K mg base N qual scope f cd A out s H E) body t ∧ t { nx := fun _ H' => Q .non H', rt := Q } (start N vs) H) :
    FnG P w K mg base CX (k + 1) f fd ps sp := by
  obtain ⟨oc, od, dV, kV, doc, pm, an, cd, ct, osl, rfl, lk, hcd, _, _⟩ := D.ex
  refine ⟨len, fun A out s H args us vs Q E room gd e0 bt rel q0 => ?_⟩
  have lenE := len _ _ _ _ q0
  have kin : K.In s.heap := e0.mod.kin.keeps fun b o z => (e0.bs b o z).1
  have noli : s.heap.NoLimit := e0.mod.nolimit.keeps fun b o z => (e0.bs b o z).1
  have kinds : ∀ y ∈ ps.zip us, scope.names.lookup y.1 = some .local ∨ (scope.names.lookup y.1 = some .cell ∧ ((cellsFrom (s.heap.objs.size + 1) scope.names []).lookup y.1).isSome = true) := by
    rintro ⟨n, v⟩ hy
    rcases S.par n (List.of_mem_zip hy).1 with z | z
    · exact .inl z
    · exact .inr ⟨z, PySem.W.cellsFrom_some _ _ _ (.inl z)⟩
  refine codeAny_call_function room.depth (kin _ _ lk) rfl S.co S.gen rfl (PySem.W.codeRec_of kin hcd) (bt _ _ _ _ ?_)
  refine wpAny_newFunctionEnv_cells S.kind kinds fun env he s1 ic => ?_
  subst he
  refine ⟨noli.keeps ic.toInCall.keep, codeAny_func ?_⟩
  obtain ⟨t, ht, hq⟩ := hb cd A out s H vs Q E (room.deeper _) gd q0
  have I0 : Inv (cxOf CX P w K mg base N qual scope f cd A out s H E) [] (start N vs) H s1 := inv_start S room.hd e0 lenE rel ic
  refine wpAny_mono (ht.run [] s1 (start N vs) H _ I0 hq) (fun fl s' hs => ?_) fun e s' hs => hs
  cases fl with
  | ret u =>
    obtain ⟨v, σ', H', J, rv, z⟩ := hs
    exact ⟨v, H', J.os, J.bare, J.base, J.hok, rv, z⟩
  | next =>
    obtain ⟨σ', H', J, z⟩ := hs
    exact ⟨V.non, H', J.os, J.bare, J.base, J.hok, (rfl : RelV .non .none), z⟩
  | brk =>
    obtain ⟨_, _, _, z⟩ := hs
    exact z.elim
  | cont =>
    obtain ⟨_, _, _, z⟩ := hs
    exact z.elim
end
section
variable {X : Cx} {CX : CXT} {k : Nat} {f : Addr} {fd : FuncData} {ps : List Str} {sp : Sp} {dvs : List V} {ds : List Value} {E : XK} {x : Str} {p pos : Pos} {e : Expr} {es : List Expr} {t : TA}
theorem run_fnG {pins : List (Addr × Obj)} {σ : L2.St} {H : Hp} {s : Shared} {Q : VK} {us : List Value} {vs : List V} (F : FnG X.prog X.w X.K X.mg X.base CX k f fd ps sp) (room : Room k X.A) (gd : X.A.guards = some [])
    (bd : Binds X.K fd ps ds) (dv : Vals dvs ds) (pass : Passes CX X E) (I : Inv X pins σ H s) (rel : Vals vs us) (q0 : sp (vs ++ dvs) H Q E) :
    wpAny (model X.prog X.w) X.A (call (.ref f) us) (EP X pins σ Q) X.xe s := by
  have rel2 : Vals (vs ++ dvs) (us ++ ds) := rel.append dv
  have lenE : (us ++ ds).length = ps.length := rel2.length.symm.trans (F.len _ _ _ _ q0)
  refine wpAny_call (codeAny_mono (F.run X.A X.stack s H ⟨us, []⟩ (us ++ ds) (vs ++ dvs) Q E room gd I.env0 (bd s us I.kIn lenE) rel2 q0) fun res s' hq => ?_)
  cases res with
  | error er => exact pass pins σ H s er s' I hq
  | ok fl =>
    cases fl with
    | ret u => exact I.after hq
    | next => exact hq.elim
    | brk => exact hq.elim
    | cont => exact hq.elim
theorem pe_callG (F : FnG X.prog X.w X.K X.mg X.base CX k f fd ps sp) (room : Room k X.A) (gd : X.A.guards = some []) (hg : Gl X x) (hm : X.mg x = some (.ref f)) (hk : PySem.W.keepIn X.K (.ref f) = true)
    (bd : Binds X.K fd ps ds) (dv : Vals dvs ds) (pass : Passes CX X E) (ha : PA X (e :: es) t) (hdb : (x == ("__debug__" : Str)) = false)
    (he : starEach (e :: es) X.env = (false, eval e X.env) :: starEach es X.env) (hpl : (backTo pos (starEach es X.env)).any (·.1) = false) : PE X (.Call (.Name x p) (e :: es) [] pos) (tCall sp dvs E t) := by
  refine ⟨fun pins s σ H Q I h => wpAny_Call_Name_kw (ld_glob I hg hm ?_ hdb)⟩
  refine PySem.W.callWith_K (h₀ := X.base) I.ok.mod.kin hk (thn (ha.run pos pins s σ H _ I h) fun us s1 ⟨vs, H1, I1, rel, q⟩ => ⟨I1.kIn, ?_⟩) he hpl
  exact run_fnG F room gd bd dv pass I1 rel q
theorem pe_callG0 (F : FnG X.prog X.w X.K X.mg X.base CX k f fd ps sp) (room : Room k X.A) (gd : X.A.guards = some []) (hg : Gl X x) (hm : X.mg x = some (.ref f)) (hk : PySem.W.keepIn X.K (.ref f) = true)
    (bd : Binds X.K fd ps ds) (dv : Vals dvs ds) (pass : Passes CX X E) (hdb : (x == ("__debug__" : Str)) = false) : PE X (.Call (.Name x p) [] [] pos) (tCall sp dvs E tNil) := by
  refine ⟨fun pins s σ H Q I h => wpAny_Call_Name_kw (ld_glob I hg hm ?_ hdb)⟩
  exact PySem.W.callWith_K0 I.kIn hk (run_fnG (us := []) F room gd bd dv pass I .nil h)
/-- a call with keywords -/
theorem run_fnGN {pins : List (Addr × Obj)} {σ : L2.St} {H : Hp} {s : Shared} {Q : VK} {us ws : List Value} {vs zs : List V} {m : Nat} {ks : List Str} {g : List Value → List Value → List Value} {gV : List V → List V → List V} (F : FnG X.prog X.w X.K X.mg X.base CX k f fd ps sp) (room : Room k X.A)
    (gd : X.A.guards = some []) (hb : KBn X.K fd ps m ks g gV) (pass : Passes CX X E) (I : Inv X pins σ H s) (r : Vals vs us) (rz : Vals zs ws) (l1 : vs.length = m) (l2 : zs.length = ks.length) (q0 : sp (gV vs zs) H Q E) :
    wpAny (model X.prog X.w) X.A (call (.ref f) us (ks.zip ws)) (EP X pins σ Q) X.xe s := by
  have rr := hb.rel r rz
  have bt := hb.to s us ws I.kIn (r.length.symm.trans l1) (rz.length.symm.trans l2)
  refine wpAny_call (codeAny_mono (F.run X.A X.stack s H ⟨us, ks.zip ws⟩ (g us ws) (gV vs zs) Q E room gd I.env0 bt rr q0) fun res s' hq => ?_)
  cases res with
  | error er => exact pass pins σ H s er s' I hq
  | ok fl =>
    cases fl with
    | ret u => exact I.after hq
    | next => exact hq.elim
    | brk => exact hq.elim
    | cont => exact hq.elim
theorem pe_callGN {kws : List Keyword} {tk : TA} {m : Nat} {ks : List Str} {g : List Value → List Value → List Value} {gV : List V → List V → List V} (F : FnG X.prog X.w X.K X.mg X.base CX k f fd ps sp) (room : Room k X.A) (gd : X.A.guards = some []) (hg : Gl X x) (hm : X.mg x = some (.ref f))
    (hk : PySem.W.keepIn X.K (.ref f) = true) (hb : KBn X.K fd ps m ks g gV) (pass : Passes CX X E) (ha : PA X (e :: es) t) (hkw : PK X kws tk) (hall : (backToKw pos (keywordEach kws X.env)).all (·.1.isSome) = true)
    (hks : (backToKw pos (keywordEach kws X.env)).filterMap (·.1) = ks) (hdb : (x == ("__debug__" : Str)) = false) (he : starEach (e :: es) X.env = (false, eval e X.env) :: starEach es X.env)
    (hpl : ((backTo pos (starEach (e :: es) X.env)).any (·.1) || (backToKw pos (keywordEach kws X.env)).any (·.1.isNone)) = false) : PE X (.Call (.Name x p) (e :: es) kws pos) (tCallN m ks.length sp gV E t tk) := by
  refine ⟨fun pins s σ H Q I h => wpAny_Call_Name_kw (ld_glob I hg hm ?_ hdb)⟩
  refine PySem.W.callWith_KW (h₀ := X.base) I.ok.mod.kin hk hall (thn (ha.run pos pins s σ H _ I h) fun us s1 ⟨vs, H1, I1, r, q⟩ => ?_) hpl he
  refine thn (hkw.run pos pins s1 σ H1 _ I1 q) fun ws s2 ⟨zs, H2, I2, rz, l1, l2, q2⟩ => ⟨I2.kIn, ?_⟩
  rw [hks]
  exact run_fnGN F room gd hb pass I2 r rz l1 l2 q2
end
/-! ### promises over data -/
/-- the feed's own name for what is left -/
def FoL (kL : Str) (fo : Fo) : Prop := ∀ f k, fo = some (f, k) → k = kL
def spD (kL : Str) (K : PySem.W.Frag) (G : List C → M D) (vs : List V) (H : Hp) (Q : VK) : Prop := ∃ (fo : Fo) (F : Hp) (s : Fd) (cs : List C) (d : D) (s' : Fd), FoL kL fo ∧ Same F H ∧ FeedInv K fo F H s ∧ Paired (CellV K fo F) vs cs ∧ G cs s = some (d, s') ∧
  ∀ v F' H', Gr fo F H F' H' → FeedInv K fo F' H' s' → Dv K F' v d → Q v H'
def bltNames : List Str := ["len", "all", "tuple", "list", "int", "str", "max", "sorted", "repr", "isinstance", "bool", "range", "zip", "enumerate"]
def FnI (kL : Str) (b : B) (n : Nat) (x : Str) (m : Nat) (G : List C → M D) : Prop := ∃ (f : Addr) (fd : FuncData) (ps : List Str) (sp : Sp) (dvs : List V) (ds : List Value), b.mg x = some (.ref f) ∧ PySem.W.keepIn b.K (.ref f) = true ∧
  FnG b.prog b.w b.K b.mg b.base CX0 n f fd ps sp ∧ Binds b.K fd ps ds ∧ Vals dvs ds ∧ ∀ vs H Q, vs.length = m → spD kL b.K G vs H Q → sp (vs ++ dvs) H Q E0
/-- called with one keyword -/
def FnK (kL : Str) (b : B) (n : Nat) (x ky : Str) (m : Nat) (G : List C → M D) : Prop := ∃ (f : Addr) (fd : FuncData) (ps : List Str) (sp : Sp) (g : List Value → List Value → List Value) (gV : List V → List V → List V), b.mg x = some (.ref f) ∧ PySem.W.keepIn b.K (.ref f) = true ∧
  FnG b.prog b.w b.K b.mg b.base CX0 n f fd ps sp ∧ KBn b.K fd ps m [ky] g gV ∧ ∀ vs z H Q, vs.length = m → spD kL b.K G (vs ++ [z]) H Q → sp (gV vs [z]) H Q E0
structure GOk (kL : Str) (Γ : Gam) (n : Nat) (b : B) : Prop where
  kl : kL = "left" ∨ kL = "rest"
  room : Room n b.A
  gd : b.A.guards = some []
  nd : b.N.Nodup
  blt : ∀ x ∈ bltNames, b.mg x = none
  con : ∀ x d, Γ.con x = some d → ∃ v u, b.mg x = some u ∧ RelV v u ∧ ∀ F, Dv b.K F v d
  tab : ∀ x kvs, Γ.tab x = some kvs → ∃ a es m, b.mg x = some (.ref a) ∧ KDict b.K b.w a es m ∧ ∀ z : Str, match looK z kvs with
    | some d => ∃ u v, PySem.W.nsIn b.K a z = some (some u) ∧ RelV v u ∧ ∀ F, Dv b.K F v d
    | none => PySem.W.nsIn b.K a z = some none
  fn : ∀ x m G, Γ.fn x m = some G → FnI kL b n x m G
  fk : ∀ x ky m G, Γ.fk x ky m = some G → FnK kL b n x ky m G
/-! ### what is walked -/
def Walks (K : PySem.W.Frag) (J : L2.It) (F0 : Hp) (ds : List D) : Prop := ∀ F H, Same F0 F → Same F H →
  (∀ (i : Nat) (d : D), ds[i]? = some d → J.go i H ∧ ∀ x H', J.yld i H x H' → ∃ F', Gr none F H F' H' ∧ Dv K F' x d) ∧ J.stop ds.length H
section
variable {K : PySem.W.Frag} {F0 : Hp}
theorem walks_list {a : Addr} {xs : List V} {ds : List D} (h : F0 a = some (.lst xs)) (hd : DvAll K F0 xs ds) : Walks K (Itl K a) F0 ds := fun F H s1 s2 => by
  have hq : SqL K H a xs := .inl (.inl (s2 _ _ (s1 _ _ h)))
  refine ⟨fun i d e => ?_, xs, hq, by rw [dvs_len hd]; exact Nat.le_refl _⟩
  obtain ⟨v, hv, dv⟩ := dvs_get hd e
  refine ⟨⟨xs, v, hq, hv⟩, fun x H' y => ?_⟩
  obtain ⟨rfl, y⟩ := y
  have ev : x = v := Option.some.inj ((y xs hq).symm.trans hv)
  subst ev
  exact ⟨F, Gr.refl s2, dv_up s1 _ _ dv⟩
theorem walks_tup {a : Addr} {xs : List V} {ds : List D} (h : SqT K F0 a xs) (hd : DvAll K F0 xs ds) : Walks K (Itt K a) F0 ds := fun F H s1 s2 => by
  have hq : SqT K H a xs := sqT_up s2 (sqT_up s1 h)
  refine ⟨fun i d e => ?_, xs, hq, by rw [dvs_len hd]; exact Nat.le_refl _⟩
  obtain ⟨v, hv, dv⟩ := dvs_get hd e
  refine ⟨⟨xs, v, hq, hv⟩, fun x H' y => ?_⟩
  obtain ⟨rfl, y⟩ := y
  have ev : x = v := Option.some.inj ((y xs hq).symm.trans hv)
  subst ev
  exact ⟨F, Gr.refl s2, dv_up s1 _ _ dv⟩
theorem walks_str (z : Str) : Walks K (Its z) F0 (strItems z) := fun F H s1 s2 => by
  refine ⟨fun i d e => ?_, ?_⟩
  · unfold strItems at e
    rw [List.getElem?_map] at e
    obtain ⟨c, hc, rfl⟩ := Option.map_eq_some_iff.mp e
    have hi : i < z.cps.size := by
      have := (List.getElem?_eq_some_iff.mp hc).1
      simpa using this
    refine ⟨hi, fun x H' y => ?_⟩
    obtain ⟨rfl, c', hc', rfl⟩ := y
    have ec : c' = c := by
      have : z.cps.toList[i]? = some c' := by simpa using hc'
      rw [hc] at this
      exact (Option.some.inj this).symm
    subst ec
    exact ⟨F, Gr.refl s2, .str _⟩
  · show z.cps.size ≤ (strItems z).length
    simp [strItems]
theorem rngL_len (lo : Int) : ∀ n : Nat, (rngL lo n).length = n
  | 0 => rfl
  | n + 1 => by
    show (rngL (lo + 1) n).length + 1 = n + 1
    rw [rngL_len (lo + 1) n]
theorem rngL_get : ∀ (n : Nat) (lo : Int) (i : Nat) (d : D), (rngL lo n)[i]? = some d → d = .int (lo + i) ∧ i < n
  | 0, lo, i, d, h => by simp [rngL] at h
  | n + 1, lo, 0, d, h => by
    have : some (PyData.int lo) = some d := h
    cases this
    exact ⟨by simp, Nat.succ_pos _⟩
  | n + 1, lo, i + 1, d, h => by
    obtain ⟨h1, h2⟩ := rngL_get n (lo + 1) i d h
    refine ⟨?_, by omega⟩
    rw [h1]
    congr 1
    omega
theorem walks_rng (lo : Int) (n : Nat) : Walks K (Itr lo n) F0 (rngL lo n) := fun F H s1 s2 => by
  refine ⟨fun i d e => ?_, ?_⟩
  · obtain ⟨rfl, hi⟩ := rngL_get n lo i d e
    refine ⟨hi, fun x H' y => ?_⟩
    obtain ⟨rfl, rfl⟩ := y
    exact ⟨F, Gr.refl s2, .int _⟩
  · show n ≤ (rngL lo n).length
    rw [rngL_len]
    exact Nat.le_refl _
theorem zipD_get : ∀ (xs ys : List D) (i : Nat) (d : D), (zipD xs ys)[i]? = some d → ∃ x y, xs[i]? = some x ∧ ys[i]? = some y ∧ d = .tuple [x, y]
  | [], _, i, d, h => by simp [zipD] at h
  | _ :: _, [], i, d, h => by simp [zipD] at h
  | x :: xs, y :: ys, 0, d, h => by
    have : some (PyData.tuple [x, y]) = some d := h
    cases this
    exact ⟨x, y, rfl, rfl, rfl⟩
  | x :: xs, y :: ys, i + 1, d, h => by
    obtain ⟨a, b, h1, h2, h3⟩ := zipD_get xs ys i d h
    exact ⟨a, b, by simpa using h1, by simpa using h2, h3⟩
theorem zipD_end : ∀ xs ys : List D, xs.length ≤ (zipD xs ys).length ∨ ys.length ≤ (zipD xs ys).length
  | [], _ => .inl (Nat.zero_le _)
  | _ :: _, [] => .inr (Nat.zero_le _)
  | x :: xs, y :: ys => by
    rcases zipD_end xs ys with h | h
    · exact .inl (Nat.succ_le_succ h)
    · exact .inr (Nat.succ_le_succ h)
theorem pair_new {F H : Hp} {T : Addr} {x y : V} {a b : D} (s2 : Same F H) (hT : H T = none) (h1 : Dv K F x a) (h2 : Dv K F y b) : ∃ F', Gr none F H F' (upd H T (.tup [x, y])) ∧ Dv K F' (.ref T) (.tuple [a, b]) := by
  have g : Gr none F H (upd F T (.tup [x, y])) (upd H T (.tup [x, y])) := Gr.new s2 hT
  exact ⟨_, g, .tup (.inl (.inl upd_same)) (.cons (dv_up g.up _ _ h1) (.cons (dv_up g.up _ _ h2) .nil))⟩
theorem walks_zipL {a b : Addr} {xs ys : List V} {ds es : List D} (h : F0 a = some (.lst xs)) (hd : DvAll K F0 xs ds) (h' : F0 b = some (.lst ys)) (hd' : DvAll K F0 ys es) : Walks K (Itz K a b) F0 (zipD ds es) := fun F H s1 s2 => by
  have hq : SqL K H a xs := .inl (.inl (s2 _ _ (s1 _ _ h)))
  have hq' : SqL K H b ys := .inl (.inl (s2 _ _ (s1 _ _ h')))
  refine ⟨fun i d e => ?_, xs, ys, hq, hq', by rw [dvs_len hd, dvs_len hd']; exact zipD_end ds es⟩
  obtain ⟨x, y, e1, e2, rfl⟩ := zipD_get ds es i d e
  obtain ⟨v, hv, dv⟩ := dvs_get hd e1
  obtain ⟨u, hu, du⟩ := dvs_get hd' e2
  refine ⟨⟨xs, ys, v, u, hq, hq', hv, hu⟩, fun z H' y => ?_⟩
  obtain ⟨T, x1, x2, rfl, hT, rfl, k1, k2⟩ := y
  have e1 : x1 = v := Option.some.inj ((k1 xs hq).symm.trans hv)
  have e2 : x2 = u := Option.some.inj ((k2 ys hq').symm.trans hu)
  subst e1 e2
  exact pair_new s2 hT (dv_up s1 _ _ dv) (dv_up s1 _ _ du)
theorem walks_zipT {a b : Addr} {xs ys : List V} {ds es : List D} (h : SqT K F0 a xs) (hd : DvAll K F0 xs ds) (h' : SqT K F0 b ys) (hd' : DvAll K F0 ys es) : Walks K (RZ.ItzT K a b) F0 (zipD ds es) := fun F H s1 s2 => by
  have hq : SqT K H a xs := sqT_up s2 (sqT_up s1 h)
  have hq' : SqT K H b ys := sqT_up s2 (sqT_up s1 h')
  refine ⟨fun i d e => ?_, xs, ys, hq, hq', by rw [dvs_len hd, dvs_len hd']; exact zipD_end ds es⟩
  obtain ⟨x, y, e1, e2, rfl⟩ := zipD_get ds es i d e
  obtain ⟨v, hv, dv⟩ := dvs_get hd e1
  obtain ⟨u, hu, du⟩ := dvs_get hd' e2
  refine ⟨⟨xs, ys, v, u, hq, hq', hv, hu⟩, fun z H' y => ?_⟩
  obtain ⟨T, x1, x2, rfl, hT, rfl, k1, k2⟩ := y
  have e1 : x1 = v := Option.some.inj ((k1 xs hq).symm.trans hv)
  have e2 : x2 = u := Option.some.inj ((k2 ys hq').symm.trans hu)
  subst e1 e2
  exact pair_new s2 hT (dv_up s1 _ _ dv) (dv_up s1 _ _ du)
theorem enum_get : ∀ (xs : List D) (k : Int) (i : Nat) (d : D), (enumFrom k xs)[i]? = some d → ∃ x, xs[i]? = some x ∧ d = .tuple [.int (k + i), x]
  | [], k, i, d, h => by simp [enumFrom] at h
  | x :: xs, k, 0, d, h => by
    have : some (PyData.tuple [.int k, x]) = some d := h
    cases this
    exact ⟨x, rfl, by simp⟩
  | x :: xs, k, i + 1, d, h => by
    obtain ⟨y, h1, h2⟩ := enum_get xs (k + 1) i d h
    refine ⟨y, by simpa using h1, ?_⟩
    rw [h2]
    congr 3
    omega
theorem enum_len : ∀ (xs : List D) (k : Int), (enumFrom k xs).length = xs.length
  | [], _ => rfl
  | x :: xs, k => by
    show (enumFrom (k + 1) xs).length + 1 = xs.length + 1
    rw [enum_len xs (k + 1)]
theorem walks_enmL {a : Addr} {xs : List V} {ds : List D} (h : F0 a = some (.lst xs)) (hd : DvAll K F0 xs ds) : Walks K (Ite K a) F0 (enumFrom 0 ds) := fun F H s1 s2 => by
  have hq : SqL K H a xs := .inl (.inl (s2 _ _ (s1 _ _ h)))
  refine ⟨fun i d e => ?_, xs, hq, by rw [dvs_len hd, enum_len]; exact Nat.le_refl _⟩
  obtain ⟨x, e1, rfl⟩ := enum_get ds 0 i d e
  obtain ⟨v, hv, dv⟩ := dvs_get hd e1
  refine ⟨⟨xs, v, hq, hv⟩, fun z H' y => ?_⟩
  obtain ⟨T, x1, rfl, hT, rfl, k1⟩ := y
  have e1 : x1 = v := Option.some.inj ((k1 xs hq).symm.trans hv)
  subst e1
  rw [Int.zero_add]
  exact pair_new s2 hT (.int _) (dv_up s1 _ _ dv)
theorem walks_enmT {a : Addr} {xs : List V} {ds : List D} (h : SqT K F0 a xs) (hd : DvAll K F0 xs ds) : Walks K (Iet K a) F0 (enumFrom 0 ds) := fun F H s1 s2 => by
  have hq : SqT K H a xs := sqT_up s2 (sqT_up s1 h)
  refine ⟨fun i d e => ?_, xs, hq, by rw [dvs_len hd, enum_len]⟩
  obtain ⟨x, e1, rfl⟩ := enum_get ds 0 i d e
  obtain ⟨v, hv, dv⟩ := dvs_get hd e1
  refine ⟨⟨xs, v, hq, hv⟩, fun z H' y => ?_⟩
  obtain ⟨T, x1, rfl, hT, rfl, k1⟩ := y
  have e1 : x1 = v := Option.some.inj ((k1 xs hq).symm.trans hv)
  subst e1
  rw [Int.zero_add]
  exact pair_new s2 hT (.int _) (dv_up s1 _ _ dv)
end
end Qv

namespace Qv
open PySem PySem.Spec PyProof.Rows L2
/-! ### the text and the small language: what is held against what -/
def visB (sc : Scope) (x : Str) : Bool := match sc.names.lookup x with
  | some .local => true
  | some .cell => true
  | some .free => true
  | _ => false
def glB (sc : Scope) (x : Str) : Bool := match sc.names.lookup x with
  | some .globalImplicit => true
  | _ => false
def nmOk (x : Str) : Bool := !(x == ("__debug__" : Str)) && (!(x == ("__classdict__" : Str)) && decide (x ≠ ("__name__" : Str)))
def conB : Const → D → Bool
  | .none, .none => true
  | .bool a, .bool b => decide (a = b)
  | .int a, .int b => decide (a = b)
  | .str a, .str b => decide (a = b)
  | _, _ => false
def notStar : Expr → Bool
  | .Starred _ _ => false
  | _ => true
def notSlice : Expr → Bool
  | .Slice _ _ _ _ => false
  | _ => true
def notSet : Expr → Bool
  | .Set _ _ _ => false
  | _ => true
def baseB : Expr → Bool
  | .Call (.Name _ _) [] [] _ => false
  | _ => true
def plainT : Expr → Bool
  | .UnaryOp _ _ _ => false
  | .BoolOp _ _ _ => false
  | .IfExp _ _ _ _ => false
  | .Compare _ _ _ _ => false
  | _ => true
def biName : Bi → Str
  | .len => "len"
  | .all => "all"
  | .tuple => "tuple"
  | .list => "list"
  | .int => "int"
  | .str => "str"
  | .max => "max"
  | .sorted => "sorted"
  | .repr => "repr"
def mtName : Mth → Str
  | .index => "index"
  | .split => "split"
  | .join => "join"
def fkName (kL : Str) : Fk → Str
  | .cells => "cells"
  | .spot => "spot"
  | .left => kL
  | .turn => "turn"
/-! is it a test that may stand ahead of a colon -/
mutual
def tst : E → Expr → Bool
  | .and es, e => (match e with
    | .BoolOp _ l _ => tstL es l
    | _ => false)
  | .or es, e => (match e with
    | .BoolOp _ l _ => tstL es l
    | _ => false)
  | .not a, e => (match e with
    | .UnaryOp _ x _ => tst a x
    | _ => false)
  | .cmp _ _ _, _ => true
  | .chn _ _ _ _ _, _ => true
  | .isN _, _ => true
  | .ntN _, _ => true
  | .inK _ _ _, _ => true
  | _, e => plainT e
def tstL : Es → List Expr → Bool
  | .nil, _ => true
  | .cons e es, l => (match l with
    | x :: r => tst e x && tstL es r
    | [] => false)
end
/-- targets -/
def chkNames (N : List Str) (sc : Scope) (fn : Str → Bool) : List Nat → List Expr → Bool
  | [], [] => true
  | i :: is, .Name x _ :: r => decide (N[i]? = some x) && (((match sc.names.lookup x with
      | some .local => true
      | some .cell => fn x
      | _ => false)) && chkNames N sc fn is r)
  | _, _ => false
def chkTg (N : List Str) (sc : Scope) (fn : Str → Bool) : Tg → Expr → Bool
  | .nm i, e => (match e with
    | .Name x p => chkNames N sc fn [i] [.Name x p]
    | _ => false)
  | .tp is, e => (match e with
    | .Tuple l _ _ => chkNames N sc fn is l
    | _ => false)
def tgSlots : Tg → List Nat
  | .nm i => [i]
  | .tp is => is
def isTupE : Expr → Bool
  | .Tuple _ _ _ => true
  | _ => false
def cellFn (scope : Scope) (x : Str) : Bool := scope.names.lookup x == some .cell
mutual
def chkE (kL : Str) (N : List Str) (sc : Scope) : E → Expr → Bool
  | .v i, e => (match e with
    | .Name x _ => decide (N[i]? = some x) && (visB sc x && nmOk x)
    | _ => false)
  | .c d, e => (match e with
    | .Constant k _ _ => conB k d
    | _ => false)
  | .g x, e => (match e with
    | .Name y _ => decide (x = y) && (glB sc x && nmOk x)
    | _ => false)
  | .tup es, e => (match e with
    | .Tuple l _ _ => decide (esLen es ≤ 1000) && chkL kL N sc es l
    | _ => false)
  | .lst es, e => (match e with
    | .List l _ => decide (esLen es ≤ 1000) && chkL kL N sc es l
    | _ => false)
  | .bin o a b, e => (match e with
    | .BinOp l op r _ => decide (op = opOf o) && (chkE kL N sc a l && chkE kL N sc b r)
    | _ => false)
  | .neg a, e => (match e with
    | .UnaryOp op x _ => decide (op = .USub) && chkE kL N sc a x
    | _ => false)
  | .cmp o a b, e => (match e with
    | .Compare l [op] [r] _ => (decide (op = cmpOf o) && !behindInMarks op r) && (chkE kL N sc a l && chkE kL N sc b r)
    | _ => false)
  | .chn o o' a b c, e => (match e with
    | .Compare l [op, op'] [r, q] _ => (decide (op = cmpOf o) && (decide (op' = cmpOf o') && !lastMarks [op, op'] [r, q])) && (chkE kL N sc a l && (chkE kL N sc b r && chkE kL N sc c q))
    | _ => false)
  | .isN a, e => (match e with
    | .Compare l [.Is] [.Constant .none _ _] _ => chkE kL N sc a l
    | _ => false)
  | .ntN a, e => (match e with
    | .Compare l [.IsNot] [.Constant .none _ _] _ => chkE kL N sc a l
    | _ => false)
  | .and es, e => (match e with
    | .BoolOp .And l _ => decide (1 ≤ esLen es) && chkL kL N sc es l
    | _ => false)
  | .or es, e => (match e with
    | .BoolOp .Or l _ => decide (1 ≤ esLen es) && chkL kL N sc es l
    | _ => false)
  | .not a, e => (match e with
    | .UnaryOp op x _ => decide (op = .Not) && chkE kL N sc a x
    | _ => false)
  | .ite c a b, e => (match e with
    | .IfExp t x y _ => (tst c t && chkE kL N sc c t) && (chkE kL N sc a x && chkE kL N sc b y)
    | _ => false)
  | .ix a b, e => (match e with
    | .Subscript x y _ => notSlice y && (chkE kL N sc a x && chkE kL N sc b y)
    | _ => false)
  | .sl a lo hi, e => (match e with
    | .Subscript x (.Slice l h none _) _ => chkE kL N sc a x && (chkO kL N sc lo l && chkO kL N sc hi h)
    | _ => false)
  | .call f es, e => (match e with
    | .Call (.Name y _) l [] _ => (decide (f = y) && (glB sc f && nmOk f)) && chkL kL N sc es l
    | _ => false)
  | .ckw f es k a, e => (match e with
    | .Call (.Name y _) l [⟨some z, x, _⟩] _ => (decide (f = y) && (glB sc f && (decide (k = z) && (nmOk f && decide (1 ≤ esLen es))))) && (chkL kL N sc es l && chkE kL N sc a x)
    | _ => false)
  | .bi b es, e => (match e with
    | .Call (.Name y _) l [] _ => (decide (biName b = y) && glB sc y) && chkL kL N sc es l
    | _ => false)
  | .isi a t, e => (match e with
    | .Call (.Name y _) [x, .Name z _] [] _ => (decide (y = ("isinstance" : Str)) && (glB sc y && (decide (z = Str.ofString (tyName t)) && glB sc z))) && (notStar x && chkE kL N sc a x)
    | _ => false)
  | .inK neg a x, e => (match e with
    | .Compare l [op] [.Name y _] _ => (decide (op = if neg then .NotIn else .In) && (decide (x = y) && (glB sc x && nmOk x))) && chkE kL N sc a l
    | _ => false)
  | .getK x a, e => (match e with
    | .Subscript (.Name y _) k _ => (decide (x = y) && (glB sc x && (nmOk x && notSlice k))) && chkE kL N sc a k
    | _ => false)
  | .mth m o es, e => (match e with
    | .Call (.Attribute x y ap) l [] cp => (decide (y = mtName m) && (baseB x && (decide (esLen es < 20) && (ap.endLine == cp.line)))) && (chkE kL N sc o x && chkL kL N sc es l)
    | _ => false)
  | .comp elt t it c own, e => (match e with
    | .ListComp x [⟨tg, iter, ifs, 0⟩] scope _ => (blkC N sc scope own && (notSet iter && (tgSlots t).all fun i => (own.map (·.2)).contains i)) &&
        (chkI kL N sc it tg iter && (chkTg N (relS scope sc) (cellFn scope) t tg && (chkC kL N (relS scope sc) c ifs && chkE kL N (relS scope sc) elt x)))
    | _ => false)
  | .fg i k, e => (match e with
    | .Subscript (.Name x _) (.Constant (.str y) _ _) _ => decide (N[i]? = some x) && (visB sc x && (nmOk x && decide (y = fkName kL k)))
    | _ => false)
  | .lrg a, e => (match e with
    | .Call (.Name l _) [.Call (.Name r _) [x] [] _] [] _ => (decide (l = ("list" : Str)) && (glB sc l && (decide (r = ("range" : Str)) && (glB sc r && notStar x)))) && chkE kL N sc a x
    | _ => false)
def chkL (kL : Str) (N : List Str) (sc : Scope) : Es → List Expr → Bool
  | .nil, l => (match l with
    | [] => true
    | _ => false)
  | .cons e es, l => (match l with
    | x :: r => notStar x && (chkE kL N sc e x && chkL kL N sc es r)
    | [] => false)
def chkO (kL : Str) (N : List Str) (sc : Scope) : Eo → Option Expr → Bool
  | .non, o => (match o with
    | none => true
    | _ => false)
  | .som e, o => (match o with
    | some x => chkE kL N sc e x
    | none => false)
def chkC (kL : Str) (N : List Str) (sc : Scope) : Eo → List Expr → Bool
  | .non, l => (match l with
    | [] => true
    | _ => false)
  | .som e, l => (match l with
    | [x] => tst e x && chkE kL N sc e x
    | _ => false)
def chkI (kL : Str) (N : List Str) (sc : Scope) : It → Expr → Expr → Bool
  | .dat a, _, e => chkE kL N sc a e
  | .zip a b, tg, e => isTupE tg && (match e with
    | .Call (.Name y _) [x, z] [] _ => (decide (y = ("zip" : Str)) && (glB sc y && (notStar x && notStar z))) && (chkE kL N sc a x && chkE kL N sc b z)
    | _ => false)
  | .enm a, tg, e => isTupE tg && (match e with
    | .Call (.Name y _) [x] [] _ => (decide (y = ("enumerate" : Str)) && (glB sc y && notStar x)) && chkE kL N sc a x
    | _ => false)
  | .rng a, _, e => (match e with
    | .Call (.Name y _) [x] [] _ => (decide (y = ("range" : Str)) && (glB sc y && notStar x)) && chkE kL N sc a x
    | _ => false)
  | .rng2 a b, _, e => (match e with
    | .Call (.Name y _) [x, z] [] _ => (decide (y = ("range" : Str)) && (glB sc y && (notStar x && notStar z))) && (chkE kL N sc a x && chkE kL N sc b z)
    | _ => false)
end
/-! ### what the checks say -/
theorem vis_of {sc : Scope} {x : Str} (h : visB sc x = true) : Vis sc x := by
  unfold visB at h
  split at h
  · exact .inl (by assumption)
  · exact .inr (.inl (by assumption))
  · exact .inr (.inr (by assumption))
  · cases h
theorem gl_of {sc : Scope} {x : Str} (h : glB sc x = true) : sc.names.lookup x = some .globalImplicit := by
  unfold glB at h
  split at h
  · assumption
  · cases h
theorem nm_of {x : Str} (h : nmOk x = true) : (x == ("__debug__" : Str)) = false ∧ (x == ("__classdict__" : Str)) = false ∧ x ≠ "__name__" := by
  unfold nmOk at h
  obtain ⟨h1, h2⟩ := Bool.and_eq_true_iff.mp h
  obtain ⟨h2, h3⟩ := Bool.and_eq_true_iff.mp h2
  refine ⟨?_, ?_, of_decide_eq_true h3⟩
  · cases e : (x == ("__debug__" : Str)) with
    | false => rfl
    | true => rw [e] at h1; cases h1
  · cases e : (x == ("__classdict__" : Str)) with
    | false => rfl
    | true => rw [e] at h2; cases h2
theorem star_of {x : Expr} (h : notStar x = true) (es : List Expr) (env : PySem.Env) : starEach (x :: es) env = (false, eval x env) :: starEach es env := by
  cases x <;> first | rfl | cases h
theorem slice_of {x : Expr} (h : notSlice x = true) : PlainIx x := fun o i => by
  cases x <;> first | rfl | cases h
theorem set_of {x : Expr} (h : notSet x = true) (env : PySem.Env) (u : Value) : foldedSetIterable x env u = pure u := by
  cases x <;> first | rfl | cases h
theorem base_of {o : Expr} (h : baseB o = true) (a : Str) (env : PySem.Env) (t : Sem Value) : attributeBase o a env t = t := by
  cases o with
  | Call f args kws pos =>
    cases f with
    | Name id p =>
      cases args with
      | nil =>
        cases kws with
        | nil => cases h
        | cons _ _ => rfl
      | cons _ _ => rfl
    | _ => rfl
  | _ => rfl
theorem plain_of {e : Expr} (h : plainT e = true) (env : PySem.Env) (t : Sem Value) : isTrue e env t = (do let v ← t; standAt e.pos; holding [v] (truthy v)) := by
  cases e <;> first | rfl | cases h
section
variable {kL : Str} {N : List Str} {sc : Scope}
theorem chkL_plain {pos : Pos} {env : PySem.Env} : ∀ (es : Es) (l : List Expr), chkL kL N sc es l = true → (backTo pos (starEach l env)).any (·.1) = false ∧ (backTo pos (starEach l env)).all (fun x => !x.1) = true ∧ l.length = esLen es
  | .nil, [], _ => ⟨rfl, rfl, rfl⟩
  | .nil, _ :: _, h => by cases h
  | .cons e es, [], h => by cases h
  | .cons e es, x :: r, h => by
    have h' : (notStar x && (chkE kL N sc e x && chkL kL N sc es r)) = true := h
    obtain ⟨h1, h2⟩ := Bool.and_eq_true_iff.mp h'
    obtain ⟨h2, h3⟩ := Bool.and_eq_true_iff.mp h2
    obtain ⟨i1, i2, i3⟩ := chkL_plain (pos := pos) (env := env) es r h3
    rw [star_of h1 r env]
    refine ⟨?_, ?_, ?_⟩
    · show (false || (backTo pos (starEach r env)).any (·.1)) = false
      rw [i1]
      rfl
    · show (!false && (backTo pos (starEach r env)).all (fun x => !x.1)) = true
      rw [i2]
      rfl
    · show r.length + 1 = esLen es + 1
      rw [i3]
end
end Qv

namespace Qv
open PySem PySem.Spec PyProof.Rows L2
/-! ### over a set of contexts -/
def EvO (K : PySem.W.Frag) (fo : Fo) (t : TO) (σ : L2.St) (ρ : Rho) (m : M (Option Int)) : Prop := ∀ F H s o s', Mx K fo F H σ ρ s → m s = some (o, s') → ∀ Q : Option Int → Hp → Prop,
  (∀ F' H', Gr fo F H F' H' → FeedInv K fo F' H' s' → Q o H') → t σ H Q
def EvB (K : PySem.W.Frag) (fo : Fo) (t : TT) (σ : L2.St) (ρ : Rho) (m : M Bool) : Prop := ∀ F H s o s', Mx K fo F H σ ρ s → m s = some (o, s') → ∀ Q : Bool → Hp → Prop,
  (∀ F' H', Gr fo F H F' H' → FeedInv K fo F' H' s' → Q o H') → t σ H Q
def EvI (K : PySem.W.Frag) (fo : Fo) (wi : TI) (σ : L2.St) (ρ : Rho) (m : M (List D)) : Prop := ∀ F H s ds s', Mx K fo F H σ ρ s → m s = some (ds, s') → ∀ R : L2.It → Hp → Prop,
  (∀ J F' H', Gr fo F H F' H' → FeedInv K fo F' H' s' → Walks K J F' ds → R J H') → wi σ H R
def GE (kL : Str) (b : B) (S : Vr → Prop) (e : Expr) (f : Rho → M D) : Prop := ∃ te, (∀ v, S v → PE (mk b v) e te) ∧ ∀ fo σ ρ, FoL kL fo → EvD b.K fo te σ ρ (f ρ)
def GT (kL : Str) (b : B) (S : Vr → Prop) (e : Expr) (f : Rho → M D) : Prop := ∃ tt, (∀ v, S v → PT (mk b v) e tt) ∧ ∀ fo σ ρ, FoL kL fo → EvT b.K fo tt σ ρ (f ρ)
def GW (kL : Str) (b : B) (S : Vr → Prop) (e : Expr) (f : Rho → M D) : Prop := ∃ tt, (∀ v, S v → PW (mk b v) e tt) ∧ ∀ fo σ ρ, FoL kL fo → EvT b.K fo tt σ ρ (f ρ)
def GL (kL : Str) (b : B) (S : Vr → Prop) (es : List Expr) (f : Rho → M (List D)) : Prop := ∃ ta, (∀ v, S v → PA (mk b v) es ta) ∧ ∀ fo σ ρ, FoL kL fo → EvLs b.K fo ta σ ρ (f ρ)
def GA (kL : Str) (b : B) (S : Vr → Prop) (es : List Expr) (f : Rho → M (List C)) : Prop := ∃ ta, (∀ v, S v → PA (mk b v) es ta) ∧ ∀ fo σ ρ, FoL kL fo → EvAs b.K fo ta σ ρ (f ρ)
def GO (kL : Str) (b : B) (S : Vr → Prop) (o : Option Expr) (f : Rho → M (Option Int)) : Prop := ∃ t, (∀ v, S v → PO (mk b v) o t) ∧ ∀ fo σ ρ, FoL kL fo → EvO b.K fo t σ ρ (f ρ)
def GC (kL : Str) (b : B) (S : Vr → Prop) (l : List Expr) (f : Rho → M Bool) : Prop := ∃ t, (∀ v, S v → PTs (mk b v) l t) ∧ ∀ fo σ ρ, FoL kL fo → EvB b.K fo t σ ρ (f ρ)
def GI (kL : Str) (b : B) (S : Vr → Prop) (tg iter : Expr) (f : Rho → M (List D)) : Prop := ∃ wi, (∀ v, S v → PI (mk b v) tg iter wi) ∧ ∀ fo σ ρ, FoL kL fo → EvI b.K fo wi σ ρ (f ρ)
/-- code that is never reached -/
def tBad : TE := fun _ _ _ => False
theorem pe_bad {X : Cx} {e : Expr} : PE X e tBad := ⟨fun _ _ _ _ _ _ h => h.elim⟩
section
variable {kL : Str} {Γ : Gam} {n : Nat} {b : B} {S : Vr → Prop} {sc : Scope}
theorem ge_bad {e : Expr} {f : Rho → M D} (h : ∀ ρ s d s', f ρ s ≠ some (d, s')) : GE kL b S e f := ⟨tBad, fun _ _ => pe_bad, fun fo σ ρ _ F H s d s' _ e _ _ => absurd e (h ρ s d s')⟩
theorem ge_v {i : Nat} {x : Str} {p : Pos} (hs : ∀ v, S v → v.env.scope = sc) (h1 : b.N[i]? = some x) (h2 : visB sc x = true) (h3 : nmOk x = true) : GE kL b S (.Name x p) (evE Γ (.v i)) :=
  ⟨tVar i, fun v hv => pe_var h1 (by show Vis v.env.scope x; rw [hs v hv]; exact vis_of h2) (nm_of h3).1 (nm_of h3).2.1, fun fo σ ρ _ => ev_var⟩
theorem ge_c {k : Const} {j : Nat} {p : Pos} {d : D} (h : conB k d = true) : GE kL b S (.Constant k j p) (evE Γ (.c d)) := by
  cases k with
  | none =>
    cases d with
    | none => exact ⟨tC .non, fun _ _ => pe_non, fun fo σ ρ _ => ev_c fun _ => .non⟩
    | _ => cases h
  | bool x =>
    cases d with
    | bool y =>
      have e : x = y := of_decide_eq_true h
      subst e
      exact ⟨tC (.bl x), fun _ _ => pe_bl, fun fo σ ρ _ => ev_c fun _ => .bl x⟩
    | _ => cases h
  | int x =>
    cases d with
    | int y =>
      have e : x = y := of_decide_eq_true h
      subst e
      exact ⟨tC (.int x), fun _ _ => pe_int, fun fo σ ρ _ => ev_c fun _ => .int x⟩
    | _ => cases h
  | str x =>
    cases d with
    | str y =>
      have e : x = y := of_decide_eq_true h
      subst e
      exact ⟨tC (.str x), fun _ _ => pe_str, fun fo σ ρ _ => ev_c fun _ => .str x⟩
    | _ => cases h
  | _ => cases h
theorem ge_g {x : Str} {p : Pos} (G : GOk kL Γ n b) (hs : ∀ v, S v → v.env.scope = sc) (h2 : glB sc x = true) (h3 : nmOk x = true) : GE kL b S (.Name x p) (evE Γ (.g x)) := by
  cases e : Γ.con x with
  | none =>
    refine ge_bad fun ρ s d s' h => ?_
    have h' : ofO (Γ.con x) s = some (d, s') := h
    rw [e] at h'
    cases h'
  | some d =>
    obtain ⟨v, u, h4, h5, h6⟩ := G.con x d e
    refine ⟨tC v, fun w hw => pe_glob (by show w.env.scope.names.lookup x = _; rw [hs w hw]; exact gl_of h2) h4 h5 (nm_of h3).1, fun fo σ ρ _ => ?_⟩
    have : evE Γ (.g x) ρ = ret d := by
      show ofO (Γ.con x) = _
      rw [e]
      rfl
    rw [this]
    exact ev_c h6
theorem ge_tup {es : Es} {l : List Expr} {k : Nat} {p : Pos} (hl : esLen es ≤ 1000) (h : GL kL b S l (evL Γ es)) : GE kL b S (.Tuple l k p) (evE Γ (.tup es)) := by
  obtain ⟨ta, h1, h2⟩ := h
  exact ⟨tTup ta, fun v hv => pe_tup (h1 v hv), fun fo σ ρ hf => ev_tup hl (h2 fo σ ρ hf)⟩
theorem ge_lst {es : Es} {l : List Expr} {p : Pos} (hl : esLen es ≤ 1000) (h : GL kL b S l (evL Γ es)) : GE kL b S (.List l p) (evE Γ (.lst es)) := by
  obtain ⟨ta, h1, h2⟩ := h
  exact ⟨tLst ta, fun v hv => pe_lst (h1 v hv), fun fo σ ρ hf => (ev_lst hl (h2 fo σ ρ hf)).evD fun s d s' z => by
    unfold evE at z
    obtain ⟨ds, s1, _, z⟩ := mb_some z
    obtain ⟨rfl, _⟩ := ret_some z
    exact ⟨ds, rfl⟩⟩
theorem ge_bin {o : Bop} {x y : Expr} {p : Pos} {f g : Rho → M D} (ha : GE kL b S x f) (hb : GE kL b S y g) : GE kL b S (.BinOp x (opOf o) y p) (fun ρ => mb (f ρ) fun u => mb (g ρ) fun w => ofO (bop o u w)) := by
  obtain ⟨ta, a1, a2⟩ := ha
  obtain ⟨tb, b1, b2⟩ := hb
  have r : ∃ r, (∀ v, OpR (mk b v) (binaryOp (opOf o)) r) ∧ Op2 b.K r (bop o) := by
    cases o with
    | add => exact ⟨_, fun v => or_add, o2_add⟩
    | sub => exact ⟨_, fun v => op_sub, o2_sub⟩
    | mul => exact ⟨rMulA b.K, fun v => or_mul, o2_mul⟩
    | fdiv => exact ⟨_, fun v => op_fdiv, o2_fdiv⟩
    | mod => exact ⟨_, fun v => op_mod, o2_mod⟩
    | pow => exact ⟨_, fun v => op_pow, o2_pow⟩
  obtain ⟨r, r1, r2⟩ := r
  exact ⟨tOp r ta tb, fun v hv => pe_op (r1 v) (a1 v hv) (b1 v hv), fun fo σ ρ hf => ev_bin (a2 fo σ ρ hf) (b2 fo σ ρ hf) r2⟩
theorem o1_neg {K : PySem.W.Frag} : Op1 K (rU fun i => .int (-i)) (fun x => (asI x).map fun i => .int (-i)) := fun F H x a d sb ha e Q q => by
  cases ha with
  | int i =>
    cases e
    exact ⟨i, rfl, q _ F H (Gr.refl sb) (.int _)⟩
  | _ => cases e
theorem ge_neg {x : Expr} {p : Pos} {f : Rho → M D} (ha : GE kL b S x f) : GE kL b S (.UnaryOp .USub x p) (fun ρ => mb (f ρ) fun u => ofO ((asI u).map fun i => .int (-i))) := by
  obtain ⟨ta, a1, a2⟩ := ha
  exact ⟨tUn _ ta, fun v hv => pe_un un_neg (a1 v hv), fun fo σ ρ hf => ev_un (a2 fo σ ρ hf) o1_neg⟩
theorem cop_all (hu : b.A.units + 64 < cLine) (o : Cop) : ∃ r, (∀ v, OpR (mk b v) (compareOp (cmpOf o)) r) ∧ Op2 b.K r (fun x y => (cop o x y).map .bool) := by
  have k : ∀ v, (mk b v).A.units + 64 < cLine := fun _ => hu
  cases o with
  | eq => exact ⟨rEqA b.K, fun v => op_eqA (k v), o2_eq⟩
  | ne => exact ⟨rNeA b.K, fun v => op_neA (k v), o2_ne⟩
  | lt => exact ⟨_, fun v => OpR.or op_lt op_lt_str, o2_ord (fun _ _ => rfl) (fun _ _ => rfl) (fun a b k h => by cases a <;> cases b <;> first | exact .inl ⟨_, _, rfl, rfl⟩ | exact .inr ⟨_, _, rfl, rfl⟩ | cases h)⟩
  | le => exact ⟨_, fun v => OpR.or op_le op_le_str, o2_ord (fun _ _ => rfl) (fun _ _ => rfl) (fun a b k h => by cases a <;> cases b <;> first | exact .inl ⟨_, _, rfl, rfl⟩ | exact .inr ⟨_, _, rfl, rfl⟩ | cases h)⟩
  | gt => exact ⟨_, fun v => OpR.or op_gt op_gt_str, o2_ord (fun _ _ => rfl) (fun _ _ => rfl) (fun a b k h => by cases a <;> cases b <;> first | exact .inl ⟨_, _, rfl, rfl⟩ | exact .inr ⟨_, _, rfl, rfl⟩ | cases h)⟩
  | ge => exact ⟨_, fun v => OpR.or op_ge op_ge_str, o2_ord (fun _ _ => rfl) (fun _ _ => rfl) (fun a b k h => by cases a <;> cases b <;> first | exact .inl ⟨_, _, rfl, rfl⟩ | exact .inr ⟨_, _, rfl, rfl⟩ | cases h)⟩
  | isin => exact ⟨rInA b.K false, fun v => or_in false, o2_in false (fun a b => by show inD a b = _; cases inD a b <;> rfl)⟩
  | notin => exact ⟨rInA b.K true, fun v => or_in true, o2_in true (fun a b => rfl)⟩
/-- a value as a test -/
theorem evT_of {K : PySem.W.Frag} {fo : Fo} {te : TE} {σ : L2.St} {ρ : Rho} {m : M D} (h : EvD K fo te σ ρ m) : EvT K fo (tB te) σ ρ m := fun F H s k s' mx e Q q =>
  h F H s _ s' mx e _ fun v F' H' g f d => by
    cases d
    exact ⟨k, rfl, q F' H' g f⟩
theorem gt_plain {e : Expr} {f : Rho → M D} (hp : plainT e = true) (h : GE kL b S e f) : GT kL b S e f := by
  obtain ⟨te, h1, h2⟩ := h
  exact ⟨tB te, fun v hv => pt_val (h1 v hv) (fun t => plain_of hp _ t), fun fo σ ρ hf => evT_of (h2 fo σ ρ hf)⟩
theorem ge_cmp {o : Cop} {x y : Expr} {p : Pos} {f g : Rho → M D} (hu : b.A.units + 64 < cLine) (hm : behindInMarks (cmpOf o) y = false) (ha : GE kL b S x f) (hb : GE kL b S y g) :
    GE kL b S (.Compare x [cmpOf o] [y] p) (fun ρ => mb (f ρ) fun u => mb (g ρ) fun w => ofO ((cop o u w).map .bool)) ∧ GT kL b S (.Compare x [cmpOf o] [y] p) (fun ρ => mb (f ρ) fun u => mb (g ρ) fun w => ofO ((cop o u w).map .bool)) := by
  obtain ⟨ta, a1, a2⟩ := ha
  obtain ⟨tb, b1, b2⟩ := hb
  obtain ⟨r, r1, r2⟩ := cop_all hu o
  exact ⟨⟨tOp r ta tb, fun v hv => pe_cmpR (r1 v) (a1 v hv) (b1 v hv) hm, fun fo σ ρ hf => ev_bin (a2 fo σ ρ hf) (b2 fo σ ρ hf) r2⟩,
    ⟨tTest (tOp r ta tb), fun v hv => pt_cmpR (r1 v) (a1 v hv) (b1 v hv) hm, fun fo σ ρ hf => evT_of (ev_bin (a2 fo σ ρ hf) (b2 fo σ ρ hf) r2)⟩⟩
theorem ev_chn {K : PySem.W.Frag} {fo : Fo} {σ : L2.St} {ρ : Rho} {ta tb tc : TE} {ma mb' mc : M D} {o o' : Cop} {r r' : R2} (ha : EvD K fo ta σ ρ ma) (hb : EvD K fo tb σ ρ mb') (hc : EvD K fo tc σ ρ mc)
    (hr : Op2 K r (fun x y => (cop o x y).map .bool)) (hr' : Op2 K r' (fun x y => (cop o' x y).map .bool)) :
    EvD K fo (tChain r r' ta tb tc) σ ρ (mb ma fun x => mb mb' fun y => mb (ofO (cop o x y)) fun k => match k with
      | true => mb mc fun z => ofO ((cop o' y z).map .bool)
      | false => ret (.bool false)) := fun F H s d s' m h Q q => by
  obtain ⟨a, s1, h1, h⟩ := mb_some h
  obtain ⟨y, s2, h2, h⟩ := mb_some h
  obtain ⟨k, s3, h3, h⟩ := mb_some h
  obtain ⟨k3, rfl⟩ := ofO_some h3
  refine ha F H s a s1 m h1 _ fun x F1 H1 g1 f1 d1 => ?_
  have m1 := m.gr g1 f1
  refine hb F1 H1 s1 y s3 m1 h2 _ fun u F2 H2 g2 f2 d2 => ?_
  refine hr F2 H2 x u a y (.bool k) g2.sub (dv_up g2.up _ _ d1) d2 (by show (cop o a y).map PyData.bool = _; rw [k3]; rfl) _ fun w F3 H3 g3 d3 => ?_
  cases d3
  refine ⟨k, rfl, ?_⟩
  cases k with
  | false =>
    obtain ⟨rfl, rfl⟩ := ret_some h
    exact q _ F3 H3 ((g1.trans g2).trans g3.any) (f2.gr g3) (.bl _)
  | true =>
    obtain ⟨z, s4, h4, h⟩ := mb_some h
    obtain ⟨h5, rfl⟩ := ofO_some h
    have m3 := (m1.gr g2 f2).gr g3.any (f2.gr g3)
    refine hc F3 H3 s3 z s' m3 h4 _ fun w F4 H4 g4 f4 d4 => ?_
    refine hr' F4 H4 u w y z d g4.sub (dv_up (g3.up.trans g4.up) _ _ d2) d4 h5 Q fun t F5 H5 g5 d5 => ?_
    exact q t F5 H5 ((((g1.trans g2).trans g3.any).trans g4).trans g5.any) (f4.gr g5) d5
theorem ge_chn {o o' : Cop} {x y z : Expr} {p : Pos} {f g h : Rho → M D} (hu : b.A.units + 64 < cLine) (hm : lastMarks [cmpOf o, cmpOf o'] [y, z] = false) (ha : GE kL b S x f) (hb : GE kL b S y g) (hc : GE kL b S z h) :
    GE kL b S (.Compare x [cmpOf o, cmpOf o'] [y, z] p) (fun ρ => mb (f ρ) fun x => mb (g ρ) fun y => mb (ofO (cop o x y)) fun k => match k with
      | true => mb (h ρ) fun z => ofO ((cop o' y z).map .bool)
      | false => ret (.bool false)) ∧
    GT kL b S (.Compare x [cmpOf o, cmpOf o'] [y, z] p) (fun ρ => mb (f ρ) fun x => mb (g ρ) fun y => mb (ofO (cop o x y)) fun k => match k with
      | true => mb (h ρ) fun z => ofO ((cop o' y z).map .bool)
      | false => ret (.bool false)) := by
  obtain ⟨ta, a1, a2⟩ := ha
  obtain ⟨tb, b1, b2⟩ := hb
  obtain ⟨tc, c1, c2⟩ := hc
  obtain ⟨r, r1, r2⟩ := cop_all hu o
  obtain ⟨r', q1, q2⟩ := cop_all hu o'
  exact ⟨⟨tChain r r' ta tb tc, fun v hv => pe_chain (r1 v) (q1 v) (a1 v hv) (b1 v hv) (c1 v hv) hm, fun fo σ ρ hf => ev_chn (a2 fo σ ρ hf) (b2 fo σ ρ hf) (c2 fo σ ρ hf) r2 q2⟩,
    ⟨tTest (tChain r r' ta tb tc), fun v hv => pt_chain (r1 v) (q1 v) (a1 v hv) (b1 v hv) (c1 v hv) hm, fun fo σ ρ hf => evT_of (ev_chn (a2 fo σ ρ hf) (b2 fo σ ρ hf) (c2 fo σ ρ hf) r2 q2)⟩⟩
theorem dv_none {K : PySem.W.Frag} {F : Hp} {v : V} {d : D} (h : Dv K F v d) : decide (v = .non) = isNone d := by
  cases h <;> first | rfl | (apply decide_eq_false; intro z; cases z)
theorem ge_isN {x : Expr} {j : Nat} {p p' : Pos} {f : Rho → M D} (ha : GE kL b S x f) :
    GE kL b S (.Compare x [.Is] [.Constant .none j p'] p) (fun ρ => mb (f ρ) fun x => ret (.bool (isNone x))) ∧
    GT kL b S (.Compare x [.Is] [.Constant .none j p'] p) (fun ρ => mb (f ρ) fun x => ret (.bool (isNone x))) := by
  obtain ⟨ta, a1, a2⟩ := ha
  have ev : ∀ fo σ ρ, FoL kL fo → EvD b.K fo (tIsN ta) σ ρ (mb (f ρ) fun x => ret (.bool (isNone x))) := fun fo σ ρ hf F H s d s' m h Q q => by
    obtain ⟨a, s1, h1, h⟩ := mb_some h
    obtain ⟨rfl, rfl⟩ := ret_some h
    refine a2 fo σ ρ hf F H s a s' m h1 _ fun x F1 H1 g1 f1 d1 => ?_
    show Q (.bl (decide (x = .non))) H1
    rw [dv_none d1]
    exact q _ F1 H1 g1 f1 (.bl _)
  exact ⟨⟨_, fun v hv => pe_cmp (pc_isN (a1 v hv)), ev⟩, ⟨_, fun v hv => pt_cmp (pc_isN (a1 v hv)), fun fo σ ρ hf => evT_of (ev fo σ ρ hf)⟩⟩
theorem ge_ntN {x : Expr} {j : Nat} {p p' : Pos} {f : Rho → M D} (ha : GE kL b S x f) :
    GE kL b S (.Compare x [.IsNot] [.Constant .none j p'] p) (fun ρ => mb (f ρ) fun x => ret (.bool (!isNone x))) ∧
    GT kL b S (.Compare x [.IsNot] [.Constant .none j p'] p) (fun ρ => mb (f ρ) fun x => ret (.bool (!isNone x))) := by
  obtain ⟨ta, a1, a2⟩ := ha
  have ev : ∀ fo σ ρ, FoL kL fo → EvD b.K fo (tNotN ta) σ ρ (mb (f ρ) fun x => ret (.bool (!isNone x))) := fun fo σ ρ hf F H s d s' m h Q q => by
    obtain ⟨a, s1, h1, h⟩ := mb_some h
    obtain ⟨rfl, rfl⟩ := ret_some h
    refine a2 fo σ ρ hf F H s a s' m h1 _ fun x F1 H1 g1 f1 d1 => ?_
    show Q (.bl (!decide (x = .non))) H1
    rw [dv_none d1]
    exact q _ F1 H1 g1 f1 (.bl _)
  exact ⟨⟨_, fun v hv => pe_cmp (pc_notN (a1 v hv)), ev⟩, ⟨_, fun v hv => pt_cmp (pc_notN (a1 v hv)), fun fo σ ρ hf => evT_of (ev fo σ ρ hf)⟩⟩
/-! ### and, or, not, if -/
theorem ge_and1 {x : Expr} {p : Pos} {e : E} (ha : GE kL b S x (evE Γ e)) : GE kL b S (.BoolOp .And [x] p) (evAnd Γ (.cons e .nil)) := by
  obtain ⟨ta, a1, a2⟩ := ha
  refine ⟨ta, fun v hv => pe_one (a1 v hv), fun fo σ ρ hf F H s d s' m h Q q => ?_⟩
  unfold evAnd at h
  obtain ⟨a, s1, h1, h⟩ := mb_some h
  have ed : a = d ∧ s1 = s' := by
    cases a with
    | bool k =>
      cases k with
      | true =>
        obtain ⟨rfl, rfl⟩ := ret_some (show ret (PyData.bool true) s1 = some (d, s') from h)
        exact ⟨rfl, rfl⟩
      | false =>
        obtain ⟨rfl, rfl⟩ := ret_some (show ret (PyData.bool false) s1 = some (d, s') from h)
        exact ⟨rfl, rfl⟩
    | _ => cases h
  obtain ⟨rfl, rfl⟩ := ed
  exact a2 fo σ ρ hf F H s a s1 m h1 Q q
theorem ge_or1 {x : Expr} {p : Pos} {e : E} (ha : GE kL b S x (evE Γ e)) : GE kL b S (.BoolOp .Or [x] p) (evOr Γ (.cons e .nil)) := by
  obtain ⟨ta, a1, a2⟩ := ha
  refine ⟨ta, fun v hv => pe_one (a1 v hv), fun fo σ ρ hf F H s d s' m h Q q => ?_⟩
  unfold evOr at h
  obtain ⟨a, s1, h1, h⟩ := mb_some h
  have ed : a = d ∧ s1 = s' := by
    cases a with
    | bool k =>
      cases k with
      | true =>
        obtain ⟨rfl, rfl⟩ := ret_some (show ret (PyData.bool true) s1 = some (d, s') from h)
        exact ⟨rfl, rfl⟩
      | false =>
        obtain ⟨rfl, rfl⟩ := ret_some (show ret (PyData.bool false) s1 = some (d, s') from h)
        exact ⟨rfl, rfl⟩
    | _ => cases h
  obtain ⟨rfl, rfl⟩ := ed
  exact a2 fo σ ρ hf F H s a s1 m h1 Q q
theorem ge_and2 {x y : Expr} {r : List Expr} {p : Pos} {e : E} {es : Es} (ha : GE kL b S x (evE Γ e)) (hb : GE kL b S (.BoolOp .And (y :: r) p) (evAnd Γ es)) : GE kL b S (.BoolOp .And (x :: y :: r) p) (evAnd Γ (.cons e es)) := by
  obtain ⟨ta, a1, a2⟩ := ha
  obtain ⟨tb, b1, b2⟩ := hb
  refine ⟨tAndV ta tb, fun v hv => pe_and (a1 v hv) (b1 v hv), fun fo σ ρ hf F H s d s' m h Q q => ?_⟩
  unfold evAnd at h
  obtain ⟨a, s1, h1, h⟩ := mb_some h
  refine a2 fo σ ρ hf F H s a s1 m h1 _ fun v F1 H1 g1 f1 d1 => ?_
  cases d1 with
  | bl k =>
    refine ⟨k, rfl, ?_⟩
    cases k with
    | true => exact b2 fo σ ρ hf F1 H1 s1 d s' (m.gr g1 f1) h Q fun w F2 H2 g2 f2 d2 => q w F2 H2 (g1.trans g2) f2 d2
    | false =>
      obtain ⟨rfl, rfl⟩ := ret_some (show ret (PyData.bool false) s1 = some (d, s') from h)
      exact q _ F1 H1 g1 f1 (.bl _)
  | _ => cases h
theorem ge_or2 {x y : Expr} {r : List Expr} {p : Pos} {e : E} {es : Es} (ha : GE kL b S x (evE Γ e)) (hb : GE kL b S (.BoolOp .Or (y :: r) p) (evOr Γ es)) : GE kL b S (.BoolOp .Or (x :: y :: r) p) (evOr Γ (.cons e es)) := by
  obtain ⟨ta, a1, a2⟩ := ha
  obtain ⟨tb, b1, b2⟩ := hb
  refine ⟨tOrV ta tb, fun v hv => pe_or (a1 v hv) (b1 v hv), fun fo σ ρ hf F H s d s' m h Q q => ?_⟩
  unfold evOr at h
  obtain ⟨a, s1, h1, h⟩ := mb_some h
  refine a2 fo σ ρ hf F H s a s1 m h1 _ fun v F1 H1 g1 f1 d1 => ?_
  cases d1 with
  | bl k =>
    refine ⟨k, rfl, ?_⟩
    cases k with
    | false => exact b2 fo σ ρ hf F1 H1 s1 d s' (m.gr g1 f1) h Q fun w F2 H2 g2 f2 d2 => q w F2 H2 (g1.trans g2) f2 d2
    | true =>
      obtain ⟨rfl, rfl⟩ := ret_some (show ret (PyData.bool true) s1 = some (d, s') from h)
      exact q _ F1 H1 g1 f1 (.bl _)
  | _ => cases h
/-- what the first operand of a chain of tests says -/
theorem and_inv {e : E} {es : Es} {ρ : Rho} {s s' : Fd} {k : Bool} (h : evAnd Γ (.cons e es) ρ s = some (.bool k, s')) : ∃ c s1, evE Γ e ρ s = some (.bool c, s1) ∧ (if c = true then evAnd Γ es ρ s1 = some (.bool k, s') else k = false ∧ s1 = s') := by
  unfold evAnd at h
  obtain ⟨a, s1, h1, h⟩ := mb_some h
  cases a with
  | bool c =>
    refine ⟨c, s1, h1, ?_⟩
    cases c with
    | true => exact h
    | false =>
      obtain ⟨e1, rfl⟩ := ret_some (show ret (PyData.bool false) s1 = some (.bool k, s') from h)
      cases e1
      exact ⟨rfl, rfl⟩
  | _ => cases h
theorem or_inv {e : E} {es : Es} {ρ : Rho} {s s' : Fd} {k : Bool} (h : evOr Γ (.cons e es) ρ s = some (.bool k, s')) : ∃ c s1, evE Γ e ρ s = some (.bool c, s1) ∧ (if c = true then k = true ∧ s1 = s' else evOr Γ es ρ s1 = some (.bool k, s')) := by
  unfold evOr at h
  obtain ⟨a, s1, h1, h⟩ := mb_some h
  cases a with
  | bool c =>
    refine ⟨c, s1, h1, ?_⟩
    cases c with
    | false => exact h
    | true =>
      obtain ⟨e1, rfl⟩ := ret_some (show ret (PyData.bool true) s1 = some (.bool k, s') from h)
      cases e1
      exact ⟨rfl, rfl⟩
  | _ => cases h
theorem gw_and1 {x : Expr} {p : Pos} {e : E} (ha : GT kL b S x (evE Γ e)) : GW kL b S (.BoolOp .And [x] p) (evAnd Γ (.cons e .nil)) := by
  obtain ⟨ta, a1, a2⟩ := ha
  refine ⟨ta, fun v hv => pw_and1 (a1 v hv), fun fo σ ρ hf F H s k s' m h Q q => ?_⟩
  obtain ⟨c, s1, h1, h2⟩ := and_inv h
  cases c with
  | true =>
    obtain ⟨e1, rfl⟩ := ret_some (show ret (PyData.bool true) s1 = some (.bool k, s') from h2)
    cases e1
    exact a2 fo σ ρ hf F H s _ s' m h1 Q q
  | false =>
    obtain ⟨rfl, rfl⟩ := h2
    exact a2 fo σ ρ hf F H s _ s1 m h1 Q q
theorem gw_or1 {x : Expr} {p : Pos} {e : E} (ha : GT kL b S x (evE Γ e)) : GW kL b S (.BoolOp .Or [x] p) (evOr Γ (.cons e .nil)) := by
  obtain ⟨ta, a1, a2⟩ := ha
  refine ⟨ta, fun v hv => pw_or1 (a1 v hv), fun fo σ ρ hf F H s k s' m h Q q => ?_⟩
  obtain ⟨c, s1, h1, h2⟩ := or_inv h
  cases c with
  | false =>
    obtain ⟨e1, rfl⟩ := ret_some (show ret (PyData.bool false) s1 = some (.bool k, s') from h2)
    cases e1
    exact a2 fo σ ρ hf F H s _ s' m h1 Q q
  | true =>
    obtain ⟨rfl, rfl⟩ := h2
    exact a2 fo σ ρ hf F H s _ s1 m h1 Q q
theorem gw_and2 {x y : Expr} {r : List Expr} {p : Pos} {e : E} {es : Es} (ha : GT kL b S x (evE Γ e)) (hb : GW kL b S (.BoolOp .And (y :: r) p) (evAnd Γ es)) : GW kL b S (.BoolOp .And (x :: y :: r) p) (evAnd Γ (.cons e es)) := by
  obtain ⟨ta, a1, a2⟩ := ha
  obtain ⟨tb, b1, b2⟩ := hb
  refine ⟨tAnd ta tb, fun v hv => pw_and (a1 v hv) (b1 v hv), fun fo σ ρ hf F H s k s' m h Q q => ?_⟩
  obtain ⟨c, s1, h1, h2⟩ := and_inv h
  refine a2 fo σ ρ hf F H s c s1 m h1 _ fun F1 H1 g1 f1 => ?_
  cases c with
  | true => exact b2 fo σ ρ hf F1 H1 s1 k s' (m.gr g1 f1) h2 Q fun F2 H2 g2 f2 => q F2 H2 (g1.trans g2) f2
  | false =>
    obtain ⟨rfl, rfl⟩ := h2
    exact q F1 H1 g1 f1
theorem gw_or2 {x y : Expr} {r : List Expr} {p : Pos} {e : E} {es : Es} (ha : GT kL b S x (evE Γ e)) (hb : GW kL b S (.BoolOp .Or (y :: r) p) (evOr Γ es)) : GW kL b S (.BoolOp .Or (x :: y :: r) p) (evOr Γ (.cons e es)) := by
  obtain ⟨ta, a1, a2⟩ := ha
  obtain ⟨tb, b1, b2⟩ := hb
  refine ⟨tOr ta tb, fun v hv => pw_or (a1 v hv) (b1 v hv), fun fo σ ρ hf F H s k s' m h Q q => ?_⟩
  obtain ⟨c, s1, h1, h2⟩ := or_inv h
  refine a2 fo σ ρ hf F H s c s1 m h1 _ fun F1 H1 g1 f1 => ?_
  cases c with
  | false => exact b2 fo σ ρ hf F1 H1 s1 k s' (m.gr g1 f1) h2 Q fun F2 H2 g2 f2 => q F2 H2 (g1.trans g2) f2
  | true =>
    obtain ⟨rfl, rfl⟩ := h2
    exact q F1 H1 g1 f1
theorem ge_not {x : Expr} {p : Pos} {f : Rho → M D} (ha : GE kL b S x f) : GE kL b S (.UnaryOp .Not x p) (fun ρ => mb (f ρ) fun u => ofO ((asB u).map fun k => .bool (!k))) := by
  obtain ⟨ta, a1, a2⟩ := ha
  refine ⟨tNotV ta, fun v hv => pe_not (a1 v hv), fun fo σ ρ hf F H s d s' m h Q q => ?_⟩
  obtain ⟨a, s1, h1, h⟩ := mb_some h
  obtain ⟨h2, rfl⟩ := ofO_some h
  refine a2 fo σ ρ hf F H s a s' m h1 _ fun x F1 H1 g1 f1 d1 => ?_
  cases d1 with
  | bl k =>
    cases h2
    exact ⟨k, rfl, q _ F1 H1 g1 f1 (.bl _)⟩
  | _ => cases h2
theorem gt_not {x : Expr} {p : Pos} {f : Rho → M D} (ha : GT kL b S x f) : GT kL b S (.UnaryOp .Not x p) (fun ρ => mb (f ρ) fun u => ofO ((asB u).map fun k => .bool (!k))) := by
  obtain ⟨ta, a1, a2⟩ := ha
  refine ⟨tNot ta, fun v hv => pt_not (a1 v hv), fun fo σ ρ hf F H s k s' m h Q q => ?_⟩
  obtain ⟨a, s1, h1, h⟩ := mb_some h
  obtain ⟨h2, rfl⟩ := ofO_some h
  cases a with
  | bool c =>
    cases h2
    exact a2 fo σ ρ hf F H s c s' m h1 _ fun F1 H1 g1 f1 => q F1 H1 g1 f1
  | _ => cases h2
theorem ge_ite {c x y : Expr} {p : Pos} {h f g : Rho → M D} (hc : GT kL b S c h) (ha : GE kL b S x f) (hb : GE kL b S y g) : GE kL b S (.IfExp c x y p) (fun ρ => mb (h ρ) fun u => match u with
    | .bool true => f ρ
    | .bool false => g ρ
    | _ => bad) := by
  obtain ⟨tc, c1, c2⟩ := hc
  obtain ⟨ta, a1, a2⟩ := ha
  obtain ⟨tb, b1, b2⟩ := hb
  refine ⟨tIf tc ta tb, fun v hv => pe_ifExp (c1 v hv) (a1 v hv) (b1 v hv), fun fo σ ρ hf F H s d s' m e Q q => ?_⟩
  obtain ⟨a, s1, h1, e⟩ := mb_some e
  cases a with
  | bool k =>
    refine c2 fo σ ρ hf F H s k s1 m h1 _ fun F1 H1 g1 f1 => ?_
    cases k with
    | true => exact a2 fo σ ρ hf F1 H1 s1 d s' (m.gr g1 f1) e Q fun w F2 H2 g2 f2 d2 => q w F2 H2 (g1.trans g2) f2 d2
    | false => exact b2 fo σ ρ hf F1 H1 s1 d s' (m.gr g1 f1) e Q fun w F2 H2 g2 f2 d2 => q w F2 H2 (g1.trans g2) f2 d2
  | _ => cases e
/-! ### subscripts, slices -/
theorem ge_ix {x y : Expr} {p : Pos} {f g : Rho → M D} (hy : notSlice y = true) (ha : GE kL b S x f) (hb : GE kL b S y g) : GE kL b S (.Subscript x y p) (fun ρ => mb (f ρ) fun u => mb (g ρ) fun w => ofO (ixD u w)) := by
  obtain ⟨ta, a1, a2⟩ := ha
  obtain ⟨tb, b1, b2⟩ := hb
  exact ⟨tOp (rIx b.K) ta tb, fun v hv => pe_ix ix_seq (a1 v hv) (b1 v hv) (slice_of hy), fun fo σ ρ hf => ev_bin (a2 fo σ ρ hf) (b2 fo σ ρ hf) o2_ix⟩
theorem go_non : GO kL b S none (evO Γ .non) := ⟨tNoPart, fun _ _ => po_none, fun fo σ ρ _ F H s o s' m h Q q => by
  unfold evO at h
  obtain ⟨rfl, rfl⟩ := ret_some h
  exact q F H (Gr.refl m.sub) m.feed⟩
theorem go_som {x : Expr} {e : E} (ha : GE kL b S x (evE Γ e)) : GO kL b S (some x) (evO Γ (.som e)) := by
  obtain ⟨ta, a1, a2⟩ := ha
  refine ⟨tPart ta, fun v hv => po_some (a1 v hv), fun fo σ ρ hf F H s o s' m h Q q => ?_⟩
  unfold evO at h
  obtain ⟨a, s1, h1, h⟩ := mb_some h
  obtain ⟨h2, rfl⟩ := ofO_some h
  refine a2 fo σ ρ hf F H s a s' m h1 _ fun x F1 H1 g1 f1 d1 => ?_
  cases d1 with
  | int i =>
    cases h2
    exact ⟨i, rfl, q F1 H1 g1 f1⟩
  | _ => cases h2
theorem ge_sl {x : Expr} {l h : Option Expr} {p p2 : Pos} {f : Rho → M D} {fl fh : Rho → M (Option Int)} (ha : GE kL b S x f) (hl : GO kL b S l fl) (hh : GO kL b S h fh) :
    GE kL b S (.Subscript x (.Slice l h none p2) p) (fun ρ => mb (f ρ) fun x => mb (fl ρ) fun l => mb (fh ρ) fun h => ofO (slD x l h)) := by
  obtain ⟨ta, a1, a2⟩ := ha
  obtain ⟨tl, l1, l2⟩ := hl
  obtain ⟨th, h1, h2⟩ := hh
  refine ⟨tSl (rSlAll b.K) ta tl th, fun v hv => pe_slice or_sl (a1 v hv) (l1 v hv) (h1 v hv), fun fo σ ρ hf F H s d s' m e Q q => ?_⟩
  obtain ⟨a, s1, e1, e⟩ := mb_some e
  obtain ⟨lo, s2, e2, e⟩ := mb_some e
  obtain ⟨hi, s3, e3, e⟩ := mb_some e
  obtain ⟨e4, rfl⟩ := ofO_some e
  refine a2 fo σ ρ hf F H s a s1 m e1 _ fun u F1 H1 g1 f1 d1 => ?_
  have m1 := m.gr g1 f1
  refine l2 fo σ ρ hf F1 H1 s1 lo s2 m1 e2 _ fun F2 H2 g2 f2 => ?_
  have m2 := m1.gr g2 f2
  refine h2 fo σ ρ hf F2 H2 s2 hi s' m2 e3 _ fun F3 H3 g3 f3 => ?_
  refine o_sl F3 H3 u a lo hi d g3.sub (dv_up (g2.up.trans g3.up) _ _ d1) e4 Q fun w F4 H4 g4 d4 => ?_
  exact q w F4 H4 (((g1.trans g2).trans g3).trans g4.any) (f3.gr g4) d4
end
end Qv

namespace Qv
open PySem PySem.Spec PyProof.Rows L2
section
variable {kL : Str} {Γ : Gam} {n : Nat} {b : B} {S : Vr → Prop} {sc : Scope}
/-! ### lists of expressions, arguments -/
theorem gl_nil : GL kL b S [] (evL Γ .nil) := ⟨tNil, fun _ _ => pa_nil, fun fo σ ρ _ => ev_nil⟩
theorem gl_cons {x : Expr} {r : List Expr} {e : E} {es : Es} (hx : notStar x = true) (h1 : GE kL b S x (evE Γ e)) (h2 : GL kL b S r (evL Γ es)) : GL kL b S (x :: r) (evL Γ (.cons e es)) := by
  obtain ⟨ta, a1, a2⟩ := h1
  obtain ⟨tb, b1, b2⟩ := h2
  exact ⟨tCons ta tb, fun v hv => pa_cons (a1 v hv) (b1 v hv) (star_of hx r _), fun fo σ ρ hf => ev_cons (a2 fo σ ρ hf) (b2 fo σ ρ hf)⟩
theorem ga_nil : GA kL b S [] (evA Γ .nil) := ⟨tNil, fun _ _ => pa_nil, fun fo σ ρ _ F H s cs s' m h Q q => by
  unfold evA at h
  obtain ⟨rfl, rfl⟩ := ret_some h
  exact q [] F H (Gr.refl m.sub) m.feed .nil⟩
/-- one argument -/
def EvC (K : PySem.W.Frag) (fo : Fo) (te : TE) (σ : L2.St) (ρ : Rho) (m : M C) : Prop := ∀ F H s c s', Mx K fo F H σ ρ s → m s = some (c, s') → ∀ Q : VK,
  (∀ v F' H', Gr fo F H F' H' → FeedInv K fo F' H' s' → CellV K fo F' v c → Q v H') → te σ H Q
theorem ga_cons {x : Expr} {r : List Expr} {e : E} {es : Es} {te : TE} (hx : notStar x = true) (h0 : ∀ v, S v → PE (mk b v) x te) (h1 : ∀ fo σ ρ, FoL kL fo → EvC b.K fo te σ ρ (match isFeed e ρ with
    | true => ret .feed
    | false => mb (evE Γ e ρ) fun x => ret (.val x))) (h2 : GA kL b S r (evA Γ es)) : GA kL b S (x :: r) (evA Γ (.cons e es)) := by
  obtain ⟨tb, b1, b2⟩ := h2
  refine ⟨tCons te tb, fun v hv => pa_cons (h0 v hv) (b1 v hv) (star_of hx r _), fun fo σ ρ hf F H s cs s' m h Q q => ?_⟩
  unfold evA at h
  obtain ⟨c, s1, e1, h⟩ := mb_some h
  obtain ⟨ds, s2, e2, h⟩ := mb_some h
  obtain ⟨rfl, rfl⟩ := ret_some h
  refine h1 fo σ ρ hf F H s c s1 m e1 _ fun v F1 H1 g1 f1 d1 => ?_
  refine b2 fo σ ρ hf F1 H1 s1 ds s' (m.gr g1 f1) e2 _ fun vs F2 H2 g2 f2 d2 => ?_
  exact q (v :: vs) F2 H2 (g1.trans g2) f2 (.cons (cellV_up g2.up d1) d2)
theorem ec_val {K : PySem.W.Frag} {fo : Fo} {te : TE} {σ : L2.St} {ρ : Rho} {m : M D} (h : EvD K fo te σ ρ m) : EvC K fo te σ ρ (mb m fun x => ret (.val x)) := fun F H s c s' mx e Q q => by
  obtain ⟨d, s1, e1, e⟩ := mb_some e
  obtain ⟨rfl, rfl⟩ := ret_some e
  exact h F H s d s' mx e1 Q fun v F' H' g f dv => q v F' H' g f dv
theorem ec_var {K : PySem.W.Frag} {fo : Fo} {σ : L2.St} {ρ : Rho} {i : Nat} : EvC K fo (tVar i) σ ρ (match isFeed (.v i) ρ with
    | true => ret .feed
    | false => mb (evE Γ (.v i) ρ) fun x => ret (.val x)) := by
  cases e : isFeed (.v i) ρ with
  | false => exact ec_val ev_var
  | true =>
    intro F H s c s' mx h Q q
    obtain ⟨rfl, rfl⟩ := ret_some h
    have hi : ρ[i]? = some .feed := by
      have e' : (match ρ[i]? with
        | some .feed => true
        | _ => false) = true := e
      split at e'
      · assumption
      · cases e'
    obtain ⟨f, k, h1, h2⟩ := mx.slot i _ hi
    exact ⟨.ref f, h2, q _ F H (Gr.refl mx.sub) mx.feed ⟨f, k, h1, rfl⟩⟩
theorem evA_len {ρ : Rho} : ∀ (es : Es) (s : Fd) (cs : List C) (s' : Fd), evA Γ es ρ s = some (cs, s') → cs.length = esLen es
  | .nil, s, cs, s', h => by
    unfold evA at h
    obtain ⟨rfl, _⟩ := ret_some h
    rfl
  | .cons e es, s, cs, s', h => by
    unfold evA at h
    obtain ⟨a, s1, _, h⟩ := mb_some h
    obtain ⟨as, s2, e2, h⟩ := mb_some h
    obtain ⟨rfl, _⟩ := ret_some h
    show as.length + 1 = esLen es + 1
    rw [evA_len es s1 as s2 e2]
/-! ### a call of a def -/
theorem ge_call {f : Str} {es : Es} {l : List Expr} {p p' : Pos} (G : GOk kL Γ n b) (hs : ∀ v, S v → v.env.scope = sc) (h1 : glB sc f = true) (h2 : nmOk f = true) (hl : chkL kL b.N sc es l = true) (ha : GA kL b S l (evA Γ es)) :
    GE kL b S (.Call (.Name f p) l [] p') (evE Γ (.call f es)) := by
  cases e : Γ.fn f (esLen es) with
  | none =>
    refine ge_bad fun ρ s d s' h => ?_
    unfold evE at h
    obtain ⟨cs, s1, e1, h⟩ := mb_some h
    rw [evA_len es _ _ _ e1, e] at h
    cases h
  | some F =>
    obtain ⟨fa, fd, ps, sp, dvs, ds, g1, g2, g3, g4, g5, g6⟩ := G.fn f _ F e
    obtain ⟨ta, a1, a2⟩ := ha
    have gl : ∀ v, S v → Gl (mk b v) f := fun v hv => by
      show v.env.scope.names.lookup f = _
      rw [hs v hv]
      exact gl_of h1
    have ev : ∀ fo σ ρ, FoL kL fo → EvD b.K fo (tCall sp dvs E0 ta) σ ρ (evE Γ (.call f es) ρ) := fun fo σ ρ hf F0 H s d s' m h Q q => by
      unfold evE at h
      obtain ⟨cs, s1, e1, h⟩ := mb_some h
      have hlen := evA_len es _ _ _ e1
      rw [hlen, e] at h
      refine a2 fo σ ρ hf F0 H s cs s1 m e1 _ fun vs F1 H1 k1 f1 pr => ?_
      refine g6 vs H1 Q (pr.length.trans hlen) ⟨fo, F1, s1, cs, d, s', hf, k1.sub, f1, pr, h, fun v F' H' g f dv => ?_⟩
      exact q v F' H' (k1.trans g) f dv
    cases l with
    | nil =>
      have he : es = .nil := by
        cases es with
        | nil => rfl
        | cons _ _ => cases hl
      subst he
      refine ⟨tCall sp dvs E0 tNil, fun v hv => pe_callG0 g3 G.room G.gd (gl v hv) g1 g2 g4 g5 pass0 (nm_of h2).1, fun fo σ ρ hf F0 H s d s' m h Q q => ?_⟩
      unfold evE at h
      obtain ⟨cs, s1, e1, h9⟩ := mb_some h
      have hlen := evA_len Es.nil _ _ _ e1
      rw [hlen, e] at h9
      unfold evA at e1
      obtain ⟨z1, z2⟩ := ret_some e1
      rw [← z1, z2] at h9
      exact g6 [] H Q rfl ⟨fo, F0, s, [], d, s', hf, m.sub, m.feed, .nil, h9, fun v F' H' g f dv => q v F' H' g f dv⟩
    | cons x r =>
      refine ⟨tCall sp dvs E0 ta, fun v hv => ?_, ev⟩
      have hx : notStar x = true ∧ ∃ es', chkL kL b.N sc es' r = true := by
        cases es with
        | nil => cases hl
        | cons e0 es' =>
          have hl' : (notStar x && (chkE kL b.N sc e0 x && chkL kL b.N sc es' r)) = true := hl
          obtain ⟨z1, z2⟩ := Bool.and_eq_true_iff.mp hl'
          exact ⟨z1, es', (Bool.and_eq_true_iff.mp z2).2⟩
      obtain ⟨z1, es', z2⟩ := hx
      exact pe_callG g3 G.room G.gd (gl v hv) g1 g2 g4 g5 pass0 (a1 v hv) (nm_of h2).1 (star_of z1 r _) (chkL_plain es' r z2).1
theorem paired_app {α β : Type} {R : α → β → Prop} : ∀ {xs : List α} {ys : List β} {us : List α} {ws : List β}, Paired R xs ys → Paired R us ws → Paired R (xs ++ us) (ys ++ ws)
  | _, _, _, _, .nil, h => h
  | _, _, _, _, .cons a r, h => .cons a (paired_app r h)
theorem paired_imp {α β : Type} {R R' : α → β → Prop} (hi : ∀ a b, R a b → R' a b) : ∀ {xs : List α} {ys : List β}, Paired R xs ys → Paired R' xs ys
  | _, _, .nil => .nil
  | _, _, .cons a r => .cons (hi _ _ a) (paired_imp hi r)
/-- one keyword behind the others -/
theorem ge_ckw {f ky : Str} {es : Es} {a : E} {l : List Expr} {x : Expr} {p p' kp : Pos} (G : GOk kL Γ n b) (hs : ∀ v, S v → v.env.scope = sc) (h1 : glB sc f = true) (h2 : nmOk f = true) (hn : decide (1 ≤ esLen es) = true) (hl : chkL kL b.N sc es l = true) (ha : GA kL b S l (evA Γ es)) (hx : GE kL b S x (evE Γ a)) :
    GE kL b S (.Call (.Name f p) l [⟨some ky, x, kp⟩] p') (evE Γ (.ckw f es ky a)) := by
  cases e : Γ.fk f ky (esLen es) with
  | none =>
    refine ge_bad fun ρ s d s' h => ?_
    unfold evE at h
    obtain ⟨cs, s1, e1, h3⟩ := mb_some h
    obtain ⟨y, s2, e2, h4⟩ := mb_some h3
    rw [evA_len es _ _ _ e1, e] at h4
    cases h4
  | some F =>
    obtain ⟨fa, fd, ps, sp, g, gV, g1, g2, g3, g4, g6⟩ := G.fk f ky _ F e
    obtain ⟨ta, a1, a2⟩ := ha
    obtain ⟨te, x1, x2⟩ := hx
    cases l with
    | nil =>
      cases es with
      | nil => exact absurd (of_decide_eq_true hn) (by decide)
      | cons _ _ => cases hl
    | cons y r =>
      refine ⟨tCallN (esLen es) 1 sp gV E0 ta (tCons te tNil), fun v hv => ?_, fun fo σ ρ hf F0 H s d s' m h Q q => ?_⟩
      · have gl : Gl (mk b v) f := by
          show v.env.scope.names.lookup f = _
          rw [hs v hv]
          exact gl_of h1
        have hy : notStar y = true ∧ ∃ es', chkL kL b.N sc es' r = true := by
          cases es with
          | nil => cases hl
          | cons e0 es' =>
            have hl' : (notStar y && (chkE kL b.N sc e0 y && chkL kL b.N sc es' r)) = true := hl
            obtain ⟨z1, z2⟩ := Bool.and_eq_true_iff.mp hl'
            exact ⟨z1, es', (Bool.and_eq_true_iff.mp z2).2⟩
        obtain ⟨z1, es', z2⟩ := hy
        refine pe_callGN (ks := [ky]) g3 G.room G.gd gl g1 g2 g4 pass0 (a1 v hv) (pk_cons (x1 v hv) pk_nil) rfl rfl (nm_of h2).1 (star_of z1 r _) ?_
        rw [star_of z1]
        show ((false || (backTo p' (starEach r v.env)).any (·.1)) || false) = false
        rw [(chkL_plain es' r z2).1]
        rfl
      · unfold evE at h
        obtain ⟨cs, s1, e1, h3⟩ := mb_some h
        obtain ⟨z, s2, e2, h4⟩ := mb_some h3
        have hlen := evA_len es _ _ _ e1
        rw [hlen, e] at h4
        refine a2 fo σ ρ hf F0 H s cs s1 m e1 _ fun vs F1 H1 k1 f1 pr => ?_
        refine x2 fo σ ρ hf F1 H1 s1 z s2 (m.gr k1 f1) e2 _ fun u F2 H2 k2 f2 du => ?_
        refine ⟨pr.length.trans hlen, rfl, g6 vs u H2 Q (pr.length.trans hlen) ⟨fo, F2, s2, cs ++ [.val z], d, s', hf, k2.sub, f2, ?_, h4, fun v F' H' gg ff dv => ?_⟩⟩
        · exact paired_app (paired_imp (fun a c z => cellV_up k2.up z) pr) (.cons du .nil)
        · exact q v F' H' ((k1.trans k2).trans gg) ff dv
/-! ### built-ins -/
def biR (K : PySem.W.Frag) : Bi → List V → Hp → VK → Prop
  | .len => fun xs H Q => ∃ x n, xs = [x] ∧ LenV K x H n ∧ Q (.int n) H
  | .all => rAll K
  | .tuple => fun xs H Q => ∃ p ys, xs = [.ref p] ∧ ((SqL K H p ys ∧ ∀ l, H l = none → Q (.ref l) (upd H l (.tup ys))) ∨ (SqT K H p ys ∧ Q (.ref p) H))
  | .list => fun xs H Q => ∃ p ys, xs = [.ref p] ∧ (SqL K H p ys ∨ SqT K H p ys) ∧ ∀ l, H l = none → Q (.ref l) (upd H l (.lst ys))
  | .int => fun xs H Q => (∃ i, xs = [.int i] ∧ Q (.int i) H) ∨ ∃ k, xs = [.bl k] ∧ Q (.int (if k then 1 else 0)) H
  | .str => fun xs H Q => (∃ i, xs = [.int i] ∧ i.natAbs.log2 < 1920 ∧ Q (.str (toString i)) H) ∨ ∃ a, xs = [.str a] ∧ Q (.str a) H
  | .max => fun _ _ _ => False
  | .sorted => rSortedS K
  | .repr => rRepr K
theorem bi_op {K : PySem.W.Frag} (o : Bi) : OpN K (biR K o) (bi o) := by
  cases o with
  | len => exact on_len
  | all => exact on_all
  | tuple => exact on_tuple
  | list => exact on_list
  | int => exact on_int
  | str => exact on_str
  | max =>
    intro F H vs ds d sb hd e Q q
    obtain ⟨a, rfl⟩ := bi_one e
    cases a <;> cases e
  | sorted => exact on_sorted
  | repr => exact on_repr
theorem ev_bi {K : PySem.W.Frag} {fo : Fo} {σ : L2.St} {ρ : Rho} {ta : TA} {m : M (List D)} {r : List V → Hp → VK → Prop} {f : List D → Option D} (ha : EvLs K fo ta σ ρ m) (hr : OpN K r f) : EvD K fo (tCB r ta) σ ρ (mb m fun ds => ofO (f ds)) := fun F H s d s' mx h Q q => by
  obtain ⟨ds, s1, h1, h⟩ := mb_some h
  obtain ⟨h2, rfl⟩ := ofO_some h
  refine ha F H s ds s' mx h1 _ fun vs F1 H1 g1 f1 d1 => ?_
  refine hr F1 H1 vs ds d g1.sub d1 h2 Q fun v F2 H2 g2 d2 => ?_
  exact q v F2 H2 (g1.trans g2.any) (f1.gr g2) d2
theorem mem_blt {x : Str} (h : bltNames.contains x = true) : x ∈ bltNames := List.contains_iff_mem.mp h
theorem ge_bi {o : Bi} {es : Es} {l : List Expr} {p p' : Pos} (G : GOk kL Γ n b) (hs : ∀ v, S v → v.env.scope = sc) (h1 : glB sc (biName o) = true) (hl : chkL kL b.N sc es l = true) (ha : GL kL b S l (evL Γ es)) :
    GE kL b S (.Call (.Name (biName o) p) l [] p') (evE Γ (.bi o es)) := by
  cases l with
  | nil =>
    refine ge_bad fun ρ s d s' h => ?_
    unfold evE at h
    obtain ⟨ds, s1, e1, h⟩ := mb_some h
    obtain ⟨h2, _⟩ := ofO_some h
    cases es with
    | nil =>
      have := evL_len Es.nil _ _ _ e1
      obtain ⟨a, rfl⟩ := bi_one h2
      cases this
    | cons _ _ => cases hl
  | cons x r =>
    obtain ⟨ta, a1, a2⟩ := ha
    have hx : notStar x = true ∧ ∃ es', chkL kL b.N sc es' r = true := by
      cases es with
      | nil => cases hl
      | cons e es' =>
        have hl' : (notStar x && (chkE kL b.N sc e x && chkL kL b.N sc es' r)) = true := hl
        obtain ⟨z1, z2⟩ := Bool.and_eq_true_iff.mp hl'
        exact ⟨z1, es', (Bool.and_eq_true_iff.mp z2).2⟩
    obtain ⟨z1, es', z2⟩ := hx
    refine ⟨tCB (biR b.K o) ta, fun v hv => ?_, fun fo σ ρ hf => ev_bi (a2 fo σ ρ hf) (bi_op o)⟩
    have gl : Gl (mk b v) (biName o) := by
      show v.env.scope.names.lookup _ = _
      rw [hs v hv]
      exact gl_of h1
    have pl := (chkL_plain (pos := p') (env := v.env) es' r z2).1
    have st := star_of z1 r v.env
    have hu : (mk b v).A.units + 64 < cLine := G.room.units
    have mg0 : (mk b v).mg (biName o) = none := G.blt _ (mem_blt (by cases o <;> decide +kernel))
    have dbg : (biName o == ("__debug__" : Str)) = false := by cases o <;> decide +kernel
    have nmn : biName o ≠ ("__name__" : Str) := by cases o <;> decide +kernel
    cases o with
    | len => exact pe_callB call_len gl mg0 PySem.boot_len (a1 v hv) nmn dbg st pl
    | all => exact pe_callB (cr_all rfl) gl mg0 (by decide +kernel) (a1 v hv) nmn dbg st pl
    | tuple => exact pe_callTy call_tuple_of gl mg0 (by decide +kernel) (a1 v hv) nmn dbg st pl
    | list => exact pe_callTy call_list_of gl mg0 (by decide +kernel) (a1 v hv) nmn dbg st pl
    | int => exact pe_callTy call_int1 gl mg0 (by decide +kernel) (a1 v hv) nmn dbg st pl
    | str => exact pe_callTy (callR_or call_str_int SkE.call_str_str) gl mg0 (by decide +kernel) (a1 v hv) nmn dbg st pl
    | max => exact pe_callB (id := "max") (fun _ _ _ _ _ _ _ _ _ z => z.elim) gl mg0 (by decide +kernel) (a1 v hv) nmn dbg st pl
    | sorted => exact pe_callB cr_sortedS gl mg0 (by decide +kernel) (a1 v hv) nmn dbg st pl
    | repr => exact pe_callB (cr_repr G.gd hu) gl mg0 (by decide +kernel) (a1 v hv) nmn dbg st pl
/-! ### isinstance -/
theorem ty_boot (t : Ty) : bootBuiltins (Str.ofString (tyName t)) = some (.type (tyName t)) := by cases t <;> decide +kernel
theorem ge_isi {x : Expr} {t : Ty} {p p' p2 : Pos} {f : Rho → M D} (G : GOk kL Γ n b) (hs : ∀ v, S v → v.env.scope = sc) (h1 : glB sc "isinstance" = true) (h2 : glB sc (Str.ofString (tyName t)) = true) (hx : notStar x = true) (ha : GE kL b S x f) :
    GE kL b S (.Call (.Name "isinstance" p) [x, .Name (Str.ofString (tyName t)) p2] [] p') (fun ρ => mb (f ρ) fun u => ret (.bool (tyD u t))) := by
  obtain ⟨ta, a1, a2⟩ := ha
  refine ⟨tCB (rIsi b.K) (tCons ta (tCons (tC (.ty (tyName t))) tNil)), fun v hv => ?_, fun fo σ ρ hf F H s d s' m h Q q => ?_⟩
  · have gl : ∀ y : Str, glB sc y = true → Gl (mk b v) y := fun y hy => by
      show v.env.scope.names.lookup _ = _
      rw [hs v hv]
      exact gl_of hy
    have pt : PE (mk b v) (.Name (Str.ofString (tyName t)) p2) (tC (.ty (tyName t))) := pe_bltn (gl _ h2) (G.blt _ (mem_blt (by cases t <;> decide +kernel))) (ty_boot t) rfl (by cases t <;> decide +kernel) (by cases t <;> decide +kernel)
    exact pe_callB call_isi (gl _ h1) (G.blt _ (mem_blt (by decide +kernel))) boot_isinstance (pa_cons (a1 v hv) (pa_cons pt pa_nil) (star_of hx _ _)) (by decide +kernel) (by decide +kernel) (star_of hx _ _) rfl
  · obtain ⟨a, s1, e1, h⟩ := mb_some h
    obtain ⟨rfl, rfl⟩ := ret_some h
    refine a2 fo σ ρ hf F H s a s' m e1 _ fun u F1 H1 g1 f1 d1 => ?_
    obtain ⟨tv, t1, t2⟩ := tyX_v g1.sub d1 t
    exact ⟨u, .ty (tyName t), tv, .type (tyName t), tyD a t, rfl, .ty _, t1, t2, q _ F1 H1 g1 f1 (.bl _)⟩
/-! ### tables of the text -/
theorem ge_inK {neg : Bool} {x : Expr} {y : Str} {p p2 : Pos} {e : E} (G : GOk kL Γ n b) (hs : ∀ v, S v → v.env.scope = sc) (h1 : glB sc y = true) (h2 : nmOk y = true) (ha : GE kL b S x (evE Γ e)) :
    GE kL b S (.Compare x [if neg then .NotIn else .In] [.Name y p2] p) (evE Γ (.inK neg e y)) ∧ GT kL b S (.Compare x [if neg then .NotIn else .In] [.Name y p2] p) (evE Γ (.inK neg e y)) := by
  cases ht : Γ.tab y with
  | none =>
    have hbad : ∀ ρ s d s', evE Γ (.inK neg e y) ρ s ≠ some (d, s') := fun ρ s d s' h => by
      unfold evE at h
      obtain ⟨a, s1, e1, h⟩ := mb_some h
      rw [ht] at h
      cases a <;> cases h
    exact ⟨ge_bad hbad, ⟨fun _ _ _ => False, fun _ _ => ⟨fun _ _ _ _ _ _ z => z.elim⟩, fun fo σ ρ _ F H s k s' _ z _ _ => absurd z (hbad ρ s _ s')⟩⟩
  | some kvs =>
    obtain ⟨ta, a1, a2⟩ := ha
    obtain ⟨a, es, m, g1, g2, g3⟩ := G.tab y kvs ht
    have pg : ∀ v, S v → PE (mk b v) (.Name y p2) (tC (.ref a)) := fun v hv => pe_glob (by
      show v.env.scope.names.lookup _ = _
      rw [hs v hv]
      exact gl_of h1) g1 rfl (nm_of h2).1
    have hr : ∀ v, OpR (mk b v) (compareOp (if neg then .NotIn else .In)) (fun x y H Q => ∃ (z : Str) (r : Option Value), x = .str z ∧ y = .ref a ∧ PySem.W.nsIn b.K a z = some r ∧ Q (.bl (if neg then !r.isSome else r.isSome)) H) := fun v => by
      cases neg with
      | false => exact op_in_kd (X := mk b v) g2
      | true => exact op_notIn_kd (X := mk b v) g2
    have hm : behindInMarks (if neg then .NotIn else .In) (.Name y p2) = false := by cases neg <;> rfl
    have ev : ∀ fo σ ρ, FoL kL fo → EvD b.K fo (tOp (fun x y H Q => ∃ (z : Str) (r : Option Value), x = .str z ∧ y = .ref a ∧ PySem.W.nsIn b.K a z = some r ∧ Q (.bl (if neg then !r.isSome else r.isSome)) H) ta (tC (.ref a))) σ ρ (evE Γ (.inK neg e y) ρ) := fun fo σ ρ hf F H s d s' mx h Q q => by
      unfold evE at h
      obtain ⟨k, s1, e1, h⟩ := mb_some h
      rw [ht] at h
      refine a2 fo σ ρ hf F H s k s1 mx e1 _ fun u F1 H1 k1 f1 d1 => ?_
      cases d1 with
      | str z =>
        obtain ⟨rfl, rfl⟩ := ret_some h
        have g4 := g3 z
        cases hz : looK z kvs with
        | none =>
          rw [hz] at g4
          rw [hz] at q
          refine ⟨z, none, rfl, rfl, g4, ?_⟩
          cases neg with
          | false => exact q _ F1 H1 k1 f1 (.bl _)
          | true => exact q _ F1 H1 k1 f1 (.bl _)
        | some d0 =>
          rw [hz] at g4
          rw [hz] at q
          obtain ⟨u0, v0, g5, _⟩ := g4
          refine ⟨z, some u0, rfl, rfl, g5, ?_⟩
          cases neg with
          | false => exact q _ F1 H1 k1 f1 (.bl _)
          | true => exact q _ F1 H1 k1 f1 (.bl _)
      | _ => cases h
    exact ⟨⟨_, fun v hv => pe_cmpR (hr v) (a1 v hv) (pg v hv) hm, ev⟩, ⟨_, fun v hv => pt_cmpR (hr v) (a1 v hv) (pg v hv) hm, fun fo σ ρ hf => evT_of (ev fo σ ρ hf)⟩⟩
theorem ge_getK {x : Expr} {y : Str} {p p2 : Pos} {e : E} (G : GOk kL Γ n b) (hs : ∀ v, S v → v.env.scope = sc) (h1 : glB sc y = true) (h2 : nmOk y = true) (hx : notSlice x = true) (ha : GE kL b S x (evE Γ e)) :
    GE kL b S (.Subscript (.Name y p2) x p) (evE Γ (.getK y e)) := by
  cases ht : Γ.tab y with
  | none =>
    refine ge_bad fun ρ s d s' h => ?_
    unfold evE at h
    obtain ⟨a, s1, e1, h⟩ := mb_some h
    rw [ht] at h
    cases a <;> cases h
  | some kvs =>
    obtain ⟨ta, a1, a2⟩ := ha
    obtain ⟨a, es, m, g1, g2, g3⟩ := G.tab y kvs ht
    refine ⟨tOp (rIxD b.K b.w) (tC (.ref a)) ta, fun v hv => pe_ix ix_kdict (pe_glob (by
      show v.env.scope.names.lookup _ = _
      rw [hs v hv]
      exact gl_of h1) g1 rfl (nm_of h2).1) (a1 v hv) (slice_of hx), fun fo σ ρ hf F H s d s' mx h Q q => ?_⟩
    unfold evE at h
    obtain ⟨k, s1, e1, h⟩ := mb_some h
    rw [ht] at h
    refine a2 fo σ ρ hf F H s k s1 mx e1 _ fun u F1 H1 k1 f1 d1 => ?_
    cases d1 with
    | str z =>
      obtain ⟨h3, rfl⟩ := ofO_some h
      have g4 := g3 z
      rw [h3] at g4
      obtain ⟨u0, v0, g5, g6, g7⟩ := g4
      exact ⟨a, z, v0, rfl, rfl, ⟨es, m, u0, g2.at_, g2.lit, g5, g6⟩, q v0 F1 H1 k1 f1 (g7 F1)⟩
    | _ => cases h
/-! ### methods -/
theorem ge_mth {o : Mth} {x : Expr} {es : Es} {l : List Expr} {ap cp : Pos} {e : E} (hb : baseB x = true) (hn : esLen es < 20) (hline : (ap.endLine == cp.line) = true) (hl : chkL kL b.N sc es l = true) (ho : GE kL b S x (evE Γ e)) (ha : GL kL b S l (evL Γ es)) :
    GE kL b S (.Call (.Attribute x (mtName o) ap) l [] cp) (evE Γ (.mth o e es)) := by
  have hbad : (∀ (u : D) ds, mth o u ds = none) → GE kL b S (.Call (.Attribute x (mtName o) ap) l [] cp) (evE Γ (.mth o e es)) := fun hz => ge_bad fun ρ s d s' h => by
    unfold evE at h
    obtain ⟨a, s1, e1, h⟩ := mb_some h
    obtain ⟨ds, s2, e2, h⟩ := mb_some h
    obtain ⟨h2, _⟩ := ofO_some h
    rw [hz] at h2
    cases h2
  cases o with
  | split => exact hbad fun u ds => by cases u <;> rfl
  | join => exact hbad fun u ds => by cases u <;> rfl
  | index =>
    cases l with
    | nil =>
      refine ge_bad fun ρ s d s' h => ?_
      unfold evE at h
      obtain ⟨a, s1, e1, h⟩ := mb_some h
      obtain ⟨ds, s2, e2, h⟩ := mb_some h
      obtain ⟨h2, _⟩ := ofO_some h
      cases es with
      | nil =>
        unfold evL at e2
        obtain ⟨rfl, _⟩ := ret_some e2
        cases a <;> cases h2
      | cons _ _ => cases hl
    | cons y r =>
      obtain ⟨to, o1, o2⟩ := ho
      obtain ⟨ta, a1, a2⟩ := ha
      have hx : notStar y = true ∧ ∃ es', chkL kL b.N sc es' r = true := by
        cases es with
        | nil => cases hl
        | cons e es' =>
          have hl' : (notStar y && (chkE kL b.N sc e y && chkL kL b.N sc es' r)) = true := hl
          obtain ⟨z1, z2⟩ := Bool.and_eq_true_iff.mp hl'
          exact ⟨z1, es', (Bool.and_eq_true_iff.mp z2).2⟩
      obtain ⟨z1, es', z2⟩ := hx
      refine ⟨tBM b.K "list" (rIndex b.K) to ta, fun v hv => ?_, fun fo σ ρ hf F H s d s' mx h Q q => ?_⟩
      · have pl := chkL_plain (pos := cp) (env := v.env) es (y :: r) hl
        refine pe_bm (X := mk b v) PySem.F.plainAttrs_list PySem.F.slot_list_index PySem.F.type_list_index mt_index (o1 v hv) (a1 v hv) (base_of hb _ _ _) ?_ hline (star_of z1 r _) (chkL_plain es' r z2).1
        have pl2 : (backTo cp (starEach (y :: r) (mk b v).env)).all (fun x => !x.1) = true := pl.2.1
        rw [pl2]
        show (true && true && decide ((y :: r).length + 0 + 0 < 30)) = true
        rw [pl.2.2]
        exact decide_eq_true (by omega)
      · unfold evE at h
        obtain ⟨a, s1, e1, h⟩ := mb_some h
        obtain ⟨ds, s2, e2, h⟩ := mb_some h
        obtain ⟨h2, rfl⟩ := ofO_some h
        refine o2 fo σ ρ hf F H s a s1 mx e1 _ fun u F1 H1 k1 f1 d1 => ?_
        have hty : tyV b.K "list" u H1 := by
          cases d1 with
          | lst hq _ => exact .inl ⟨rfl, _, .inl (.inl (k1.sub _ _ hq))⟩
          | _ => cases h2
        refine ⟨hty, ?_⟩
        refine a2 fo σ ρ hf F1 H1 s1 ds s' (mx.gr k1 f1) e2 _ fun vs F2 H2 k2 f2 d2 => ?_
        refine om_index F2 H2 u vs a ds d k2.sub (dv_up k2.up _ _ d1) d2 h2 Q fun w F3 H3 k3 d3 => ?_
        exact q w F3 H3 ((k1.trans k2).trans k3.any) (f2.gr k3) d3
/-! ### the feed -/
theorem ne_inr {x y : Str} (h : x ≠ y) : ¬ (Sum.inr x : Key) = Sum.inr y := fun z => h (Sum.inr.inj z)
def feedV (c : Addr) (s : Fd) : Fk → V
  | .cells => .ref c
  | .spot => .int s.spot
  | .left => .int s.left
  | .turn => .int s.turn
theorem feed_get {kL : Str} (hk : kL = "left" ∨ kL = "rest") (c : Addr) (s : Fd) (k : Fk) : valV [(Sum.inr ("cells" : Str), V.ref c), (Sum.inr ("spot" : Str), .int s.spot), (Sum.inr kL, .int s.left), (Sum.inr ("turn" : Str), .int s.turn)] (Sum.inr (fkName kL k) : Key) =
    some (feedV c s k) := by
  rcases hk with rfl | rfl
  all_goals
    cases k with
    | cells => exact valV_pos rfl
    | spot => exact (valV_neg (ne_inr (by decide +kernel))).trans (valV_pos rfl)
    | left => exact (valV_neg (ne_inr (by decide +kernel))).trans ((valV_neg (ne_inr (by decide +kernel))).trans (valV_pos rfl))
    | turn => exact (valV_neg (ne_inr (by decide +kernel))).trans ((valV_neg (ne_inr (by decide +kernel))).trans ((valV_neg (ne_inr (by decide +kernel))).trans (valV_pos rfl)))
theorem dvs_ofInts {K : PySem.W.Frag} {F : Hp} : ∀ l : List Int, DvAll K F (l.map V.int) (l.map .int)
  | [] => .nil
  | z :: r => .cons (.int z) (dvs_ofInts r)
theorem ge_fg {i : Nat} {x : Str} {k : Fk} {j : Nat} {p p2 p3 : Pos} (G : GOk kL Γ n b) (hs : ∀ v, S v → v.env.scope = sc) (h1 : b.N[i]? = some x) (h2 : visB sc x = true) (h3 : nmOk x = true) :
    GE kL b S (.Subscript (.Name x p2) (.Constant (.str (fkName kL k)) j p3) p) (evE Γ (.fg i k)) := by
  refine ⟨tDGet (tVar i) (tC (.str (fkName kL k))), fun v hv => pe_dget (X := mk b v) (by have := G.room.units; show b.A.units + 1 < cLine; omega) (pe_var h1 (by show Vis v.env.scope x; rw [hs v hv]; exact vis_of h2) (nm_of h3).1 (nm_of h3).2.1) pe_str (fun _ _ => rfl), fun fo σ ρ hf F H s d s' mx h Q q => ?_⟩
  unfold evE at h
  cases e : ρ[i]? with
  | none => rw [e] at h; cases h
  | some c =>
    rw [e] at h
    cases c with
    | feed =>
      have h' : some (fget s k, s) = some (d, s') := h
      cases h'
      obtain ⟨f, k0, e1, e2⟩ := mx.slot i _ e
      have ek := hf f k0 e1
      subst ek
      subst e1
      obtain ⟨nf, c, hc, hl⟩ := mx.feed
      refine ⟨.ref f, e2, f, feedV c s k, rfl, ?_, ?_⟩
      · have := DGet.k (k := Sum.inr (fkName k0 k)) hc
        rw [feed_get G.kl] at this
        exact this
      · refine q _ F H (Gr.refl mx.sub) mx.feed ?_
        cases k with
        | cells => exact .lst hl (dvs_ofInts _)
        | spot => exact .int _
        | left => exact .int _
        | turn => exact .int _
    | emp => cases h
    | val _ => cases h
    | own _ => cases h
theorem rg_dv {K : PySem.W.Frag} {F : Hp} : ∀ (n : Nat) (lo : Int), DvAll K F ((List.range n).map fun i => V.int (lo + (i : Nat))) (rngL lo n)
  | 0, _ => .nil
  | n + 1, lo => by
    rw [List.range_succ_eq_map, List.map_cons, List.map_map]
    refine .cons (by rw [Int.ofNat_zero, Int.add_zero]; exact .int lo) ?_
    have ih := rg_dv (K := K) (F := F) n (lo + 1)
    have e : ((fun i : Nat => V.int (lo + (i : Nat))) ∘ Nat.succ) = fun i : Nat => V.int (lo + 1 + (i : Nat)) := by
      funext i
      show V.int (lo + ((i + 1 : Nat) : Int)) = _
      congr 1
      omega
    rw [e]
    exact ih
theorem ge_lrg {x : Expr} {p p' p2 p3 : Pos} {e : E} (G : GOk kL Γ n b) (hs : ∀ v, S v → v.env.scope = sc) (h1 : glB sc "list" = true) (h2 : glB sc "range" = true) (hx : notStar x = true) (ha : GE kL b S x (evE Γ e)) :
    GE kL b S (.Call (.Name "list" p) [.Call (.Name "range" p2) [x] [] p3] [] p') (evE Γ (.lrg e)) := by
  obtain ⟨ta, a1, a2⟩ := ha
  have gl : ∀ y : Str, glB sc y = true → ∀ v, S v → Gl (mk b v) y := fun y hy v hv => by
    show v.env.scope.names.lookup _ = _
    rw [hs v hv]
    exact gl_of hy
  refine ⟨tLstRg (tRg1 ta), fun v hv => pe_listRg (X := mk b v) rfl (gl _ h1 v hv) (G.blt _ (mem_blt (by decide +kernel))) (prg_1 (gl _ h2 v hv) (G.blt _ (mem_blt (by decide +kernel))) (a1 v hv) (star_of hx _ _)) rfl, fun fo σ ρ hf F H s d s' mx h Q q => ?_⟩
  unfold evE at h
  obtain ⟨z, s1, e1, h3⟩ := mb_some h
  refine a2 fo σ ρ hf F H s z s1 mx e1 _ fun v F1 H1 g1 f1 d1 => ?_
  cases d1 with
  | int j =>
    have h' : (if rngOk j = true then ret (PyData.list (rngL 0 j.toNat)) else bad) s1 = some (d, s') := h3
    cases hj : rngOk j with
    | false => rw [hj] at h'; cases h'
    | true =>
      rw [hj] at h'
      obtain ⟨rfl, rfl⟩ := ret_some (show ret (PyData.list (rngL 0 j.toNat)) s1 = some (d, s') from h')
      have hb := of_decide_eq_true hj
      refine ⟨j, rfl, ⟨by omega, by omega, by omega, by omega, by omega⟩, fun p hp => ?_⟩
      have g : Gr none F1 H1 (upd F1 p (.lst (rgV 0 j))) (upd H1 p (.lst (rgV 0 j))) := Gr.new g1.sub hp
      refine q _ _ _ (g1.trans g.any) (f1.gr g) (.lst upd_same ?_)
      unfold rgV
      rw [Int.sub_zero]
      exact rg_dv _ _
  | _ => cases h3
end
end Qv

namespace Qv
open PySem PySem.Spec PyProof.Rows L2
section
variable {kL : Str} {Γ : Gam} {n : Nat} {b : B} {S : Vr → Prop} {sc : Scope}
/-! ### what is walked -/
theorem pi_or {X : Cx} {tg it : Expr} {w1 w2 : TI} (h1 : PI X tg it w1) (h2 : PI X tg it w2) : PI X tg it (fun σ H R => w1 σ H R ∨ w2 σ H R) :=
  ⟨fun pins s σ H R I h => h.elim (h1.run pins s σ H R I) (h2.run pins s σ H R I)⟩
theorem gi_dat {tg x : Expr} {f : Rho → M D} (ha : GE kL b S x f) : GI kL b S tg x (fun ρ => mb (f ρ) fun u => ofO (itemsOf u)) := by
  obtain ⟨te, a1, a2⟩ := ha
  refine ⟨fun σ H R => (iList b.K te σ H R ∨ iTup b.K te σ H R) ∨ iStr te σ H R, fun v hv => pi_or (pi_or (pi_list (a1 v hv)) (pi_tup (a1 v hv))) (pi_str (a1 v hv)), fun fo σ ρ hf F H s ds s' m h R q => ?_⟩
  obtain ⟨d, s1, e1, h⟩ := mb_some h
  obtain ⟨h2, rfl⟩ := ofO_some h
  cases d with
  | list xs =>
    cases h2
    refine .inl (.inl (a2 fo σ ρ hf F H s _ s' m e1 _ fun v F1 H1 g1 f1 d1 => ?_))
    cases d1 with
    | lst hq hd => exact ⟨_, rfl, ⟨_, .inl (.inl (g1.sub _ _ hq))⟩, q _ F1 H1 g1 f1 (walks_list hq hd)⟩
  | tuple xs =>
    cases h2
    refine .inl (.inr (a2 fo σ ρ hf F H s _ s' m e1 _ fun v F1 H1 g1 f1 d1 => ?_))
    cases d1 with
    | tup hq hd => exact ⟨_, rfl, ⟨_, sqT_up g1.sub hq⟩, q _ F1 H1 g1 f1 (walks_tup hq hd)⟩
  | str z =>
    cases h2
    refine .inr (a2 fo σ ρ hf F H s _ s' m e1 _ fun v F1 H1 g1 f1 d1 => ?_)
    cases d1
    exact ⟨z, rfl, q _ F1 H1 g1 f1 (walks_str z)⟩
  | _ => cases h2
theorem gi_zip {l : List Expr} {k : Nat} {x y : Expr} {p p' p2 : Pos} {e e' : E} (G : GOk kL Γ n b) (hs : ∀ v, S v → v.env.scope = sc) (h1 : glB sc "zip" = true) (hx : notStar x = true) (hy : notStar y = true) (ha : GE kL b S x (evE Γ e)) (hb : GE kL b S y (evE Γ e')) :
    GI kL b S (.Tuple l k p2) (.Call (.Name "zip" p) [x, y] [] p') (evI Γ (.zip e e')) := by
  obtain ⟨ta, a1, a2⟩ := ha
  obtain ⟨tb, b1, b2⟩ := hb
  refine ⟨RZ.iZipA b.K (tCons ta (tCons tb tNil)), fun v hv => RZ.pi_zipA (by
    show v.env.scope.names.lookup _ = _
    rw [hs v hv]
    exact gl_of h1) (G.blt _ (mem_blt (by decide +kernel))) (pa_cons (a1 v hv) (pa_cons (b1 v hv) pa_nil (star_of hy _ _)) (star_of hx _ _)) (star_of hx _ _) (by rw [star_of hy]; rfl), fun fo σ ρ hf F H s ds s' m h R q => ?_⟩
  unfold evI at h
  obtain ⟨d, s1, e1, h⟩ := mb_some h
  obtain ⟨d', s2, e2, h⟩ := mb_some h
  refine a2 fo σ ρ hf F H s d s1 m e1 _ fun v F1 H1 g1 f1 d1 => ?_
  refine b2 fo σ ρ hf F1 H1 s1 d' s2 (m.gr g1 f1) e2 _ fun v' F2 H2 g2 f2 d2 => ?_
  have d1' := dv_up g2.up _ _ d1
  cases d with
  | list xs =>
    cases d' with
    | list ys =>
      obtain ⟨rfl, rfl⟩ := ret_some h
      cases d1' with
      | lst hq hd =>
        cases d2 with
        | lst hq' hd' => exact ⟨_, _, _, _, rfl, .inl ⟨.inl (.inl (g2.sub _ _ hq)), .inl (.inl (g2.sub _ _ hq')), q _ F2 H2 (g1.trans g2) f2 (walks_zipL hq hd hq' hd')⟩⟩
    | _ => cases h
  | tuple xs =>
    cases d' with
    | tuple ys =>
      obtain ⟨rfl, rfl⟩ := ret_some h
      cases d1' with
      | tup hq hd =>
        cases d2 with
        | tup hq' hd' => exact ⟨_, _, _, _, rfl, .inr ⟨sqT_up g2.sub hq, sqT_up g2.sub hq', q _ F2 H2 (g1.trans g2) f2 (walks_zipT hq hd hq' hd')⟩⟩
    | _ => cases h
  | _ => cases h
theorem gi_enm {l : List Expr} {k : Nat} {x : Expr} {p p' p2 : Pos} {e : E} (G : GOk kL Γ n b) (hs : ∀ v, S v → v.env.scope = sc) (h1 : glB sc "enumerate" = true) (hx : notStar x = true) (ha : GE kL b S x (evE Γ e)) :
    GI kL b S (.Tuple l k p2) (.Call (.Name "enumerate" p) [x] [] p') (evI Γ (.enm e)) := by
  obtain ⟨ta, a1, a2⟩ := ha
  have gl : ∀ v, S v → Gl (mk b v) "enumerate" := fun v hv => by
    show v.env.scope.names.lookup _ = _
    rw [hs v hv]
    exact gl_of h1
  have mg0 : b.mg "enumerate" = none := G.blt _ (mem_blt (by decide +kernel))
  have st : ∀ v : Vr, starEach [x] v.env = [(false, eval x v.env)] := fun v => star_of hx [] v.env
  refine ⟨fun σ H R => iEnum b.K (tCons ta tNil) σ H R ∨ iEnmT b.K (tCons ta tNil) σ H R, fun v hv => pi_or (pi_enum (X := mk b v) (gl v hv) mg0 (pa_cons (a1 v hv) pa_nil (star_of hx _ _)) (st v)) (pi_enmT (X := mk b v) (gl v hv) mg0 (pa_cons (a1 v hv) pa_nil (star_of hx _ _)) (st v)), fun fo σ ρ hf F H s ds s' m h R q => ?_⟩
  unfold evI at h
  obtain ⟨d, s1, e1, h⟩ := mb_some h
  cases d with
  | list xs =>
    obtain ⟨rfl, rfl⟩ := ret_some h
    refine .inl (a2 fo σ ρ hf F H s _ s' m e1 _ fun v F1 H1 g1 f1 d1 => ?_)
    cases d1 with
    | lst hq hd => exact ⟨_, _, rfl, .inl (.inl (g1.sub _ _ hq)), q _ F1 H1 g1 f1 (walks_enmL hq hd)⟩
  | tuple xs =>
    obtain ⟨rfl, rfl⟩ := ret_some h
    refine .inr (a2 fo σ ρ hf F H s _ s' m e1 _ fun v F1 H1 g1 f1 d1 => ?_)
    cases d1 with
    | tup hq hd => exact ⟨_, _, rfl, sqT_up g1.sub hq, q _ F1 H1 g1 f1 (walks_enmT hq hd)⟩
  | _ => cases h
theorem rng_of {i : Int} (h : rngOk i = true) : -(2 ^ 62) ≤ i ∧ i < 2 ^ 62 := by
  have := of_decide_eq_true h
  omega
theorem gi_rng {tg x : Expr} {p p' : Pos} {e : E} (G : GOk kL Γ n b) (hs : ∀ v, S v → v.env.scope = sc) (h1 : glB sc "range" = true) (hx : notStar x = true) (ha : GE kL b S x (evE Γ e)) :
    GI kL b S tg (.Call (.Name "range" p) [x] [] p') (evI Γ (.rng e)) := by
  obtain ⟨ta, a1, a2⟩ := ha
  refine ⟨iRng1 (tCons ta tNil), fun v hv => pi_range1 (X := mk b v) (by
    show v.env.scope.names.lookup _ = _
    rw [hs v hv]
    exact gl_of h1) (G.blt _ (mem_blt (by decide +kernel))) (pa_cons (a1 v hv) pa_nil (star_of hx _ _)) (star_of hx _ _), fun fo σ ρ hf F H s ds s' m h R q => ?_⟩
  unfold evI at h
  obtain ⟨d, s1, e1, h⟩ := mb_some h
  refine a2 fo σ ρ hf F H s d s1 m e1 _ fun v F1 H1 g1 f1 d1 => ?_
  cases d1 with
  | int j =>
    have h' : (if rngOk j = true then ret (rngL 0 j.toNat) else bad) s1 = some (ds, s') := h
    cases hj : rngOk j with
    | false => rw [hj] at h'; cases h'
    | true =>
      rw [hj] at h'
      obtain ⟨rfl, rfl⟩ := ret_some (show ret (rngL 0 j.toNat) s1 = some (ds, s') from h')
      exact ⟨j, rfl, (rng_of hj).1, (rng_of hj).2, q _ F1 H1 g1 f1 (walks_rng 0 j.toNat)⟩
  | _ => cases h
theorem gi_rng2 {tg x y : Expr} {p p' : Pos} {e e' : E} (G : GOk kL Γ n b) (hs : ∀ v, S v → v.env.scope = sc) (h1 : glB sc "range" = true) (hx : notStar x = true) (hy : notStar y = true) (ha : GE kL b S x (evE Γ e)) (hb : GE kL b S y (evE Γ e')) :
    GI kL b S tg (.Call (.Name "range" p) [x, y] [] p') (evI Γ (.rng2 e e')) := by
  obtain ⟨ta, a1, a2⟩ := ha
  obtain ⟨tb, b1, b2⟩ := hb
  refine ⟨iRng2 (tCons ta (tCons tb tNil)), fun v hv => pi_range2 (X := mk b v) (by
    show v.env.scope.names.lookup _ = _
    rw [hs v hv]
    exact gl_of h1) (G.blt _ (mem_blt (by decide +kernel))) (pa_cons (a1 v hv) (pa_cons (b1 v hv) pa_nil (star_of hy _ _)) (star_of hx _ _)) ((star_of hx _ _).trans (congrArg _ (star_of hy _ _))) (star_of hy _ _), fun fo σ ρ hf F H s ds s' m h R q => ?_⟩
  unfold evI at h
  obtain ⟨d, s1, e1, h⟩ := mb_some h
  obtain ⟨d', s2, e2, h⟩ := mb_some h
  refine a2 fo σ ρ hf F H s d s1 m e1 _ fun v F1 H1 g1 f1 d1 => ?_
  refine b2 fo σ ρ hf F1 H1 s1 d' s2 (m.gr g1 f1) e2 _ fun v' F2 H2 g2 f2 d2 => ?_
  cases d1 with
  | int i =>
    cases d2 with
    | int j =>
      have h' : (if (rngOk i && rngOk j) = true then ret (rngL i (j - i).toNat) else bad) s2 = some (ds, s') := h
      cases hj : (rngOk i && rngOk j) with
      | false => rw [hj] at h'; cases h'
      | true =>
        rw [hj] at h'
        obtain ⟨j1, j2⟩ := Bool.and_eq_true_iff.mp hj
        obtain ⟨rfl, rfl⟩ := ret_some (show ret (rngL i (j - i).toNat) s2 = some (ds, s') from h')
        exact ⟨i, j, rfl, ⟨(rng_of j1).1, (rng_of j1).2, (rng_of j2).1, (rng_of j2).2⟩, q _ F2 H2 (g1.trans g2) f2 (walks_rng i (j - i).toNat)⟩
    | _ => cases h
  | _ => cases h
/-! ### targets -/
def setV : List Nat → List V → L2.St → L2.St
  | i :: is, v :: vs, σ => setV is vs (σ.set i (some v))
  | _, _, σ => σ
def gNames : List Nat → TGs
  | [] => gNil
  | i :: is => gCons (gName i) (gNames is)
def gOf (K : PySem.W.Frag) : Tg → TG
  | .nm i => gName i
  | .tp is => gTup K is.length (gNames is)
theorem asgEach_name (x : Str) (p : Pos) (r : List Expr) (env : PySem.Env) : (assignEach (.Name x p :: r) env).map (·.2) = assign (.Name x p) env :: (assignEach r env).map (·.2) := rfl
theorem names_ok {fn : Str → Bool} (G : b.N.Nodup) (hs : ∀ v, S v → v.env.scope = sc) (hf : ∀ v, S v → v.fn = fn) : ∀ (is : List Nat) (l : List Expr), chkNames b.N sc fn is l = true →
    ∀ v, S v → PGs (mk b v) l (gNames is) ∧ (assignEach l v.env).length = is.length ∧ (assignEach l v.env).findIdx? (·.1) = none
  | [], [], _, v, hv => ⟨pgs_nil, rfl, rfl⟩
  | [], _ :: _, h, _, _ => by cases h
  | _ :: _, [], h, _, _ => by cases h
  | i :: is, x :: r, h, v, hv => by
    cases x with
    | Name x p =>
      have h' : (decide (b.N[i]? = some x) && (((match sc.names.lookup x with
        | some .local => true
        | some .cell => fn x
        | _ => false)) && chkNames b.N sc fn is r)) = true := h
      obtain ⟨h1, h2⟩ := Bool.and_eq_true_iff.mp h'
      obtain ⟨h2, h3⟩ := Bool.and_eq_true_iff.mp h2
      obtain ⟨i1, i2, i3⟩ := names_ok G hs hf is r h3 v hv
      have hi : (mk b v).N[i]? = some x := of_decide_eq_true h1
      have hl : Loc (mk b v).env.scope x ∧ ((mk b v).fn x = true ∨ (mk b v).env.scope.names.lookup x = some .local) := by
        show Loc v.env.scope x ∧ (v.fn x = true ∨ v.env.scope.names.lookup x = some .local)
        rw [hs v hv, hf v hv]
        split at h2
        · rename_i e
          exact ⟨.inl e, .inr e⟩
        · rename_i e
          exact ⟨.inr e, .inl h2⟩
        · cases h2
      refine ⟨pgs_cons (pg_name G hi hl.1 hl.2) i1 rfl, ?_, ?_⟩
      · show (assignEach r v.env).length + 1 = is.length + 1
        rw [i2]
      · show List.findIdx? _ ((false, _) :: assignEach r v.env) = none
        rw [List.findIdx?_cons]
        simp [i3]
    | _ => cases h
theorem tg_pg {fn : Str → Bool} {t : Tg} {e : Expr} (G : b.N.Nodup) (hs : ∀ v, S v → v.env.scope = sc) (hf : ∀ v, S v → v.fn = fn) (h : chkTg b.N sc fn t e = true) : ∀ v, S v → PG (mk b v) e (gOf b.K t) := fun v hv => by
  cases t with
  | nm i =>
    cases e with
    | Name x p =>
      have h' : chkNames b.N sc fn [i] [.Name x p] = true := h
      have hn := (names_ok G hs hf [i] [.Name x p] h' v hv).1
      refine ⟨fun pins s σ H u w Q I r hq => ?_⟩
      have h2 : (decide (b.N[i]? = some x) && (((match sc.names.lookup x with
        | some .local => true
        | some .cell => fn x
        | _ => false)) && true)) = true := h
      obtain ⟨z1, z2⟩ := Bool.and_eq_true_iff.mp h2
      obtain ⟨z2, _⟩ := Bool.and_eq_true_iff.mp z2
      have hl : Loc (mk b v).env.scope x ∧ ((mk b v).fn x = true ∨ (mk b v).env.scope.names.lookup x = some .local) := by
        show Loc v.env.scope x ∧ (v.fn x = true ∨ v.env.scope.names.lookup x = some .local)
        rw [hs v hv, hf v hv]
        split at z2
        · rename_i e
          exact ⟨.inl e, .inr e⟩
        · rename_i e
          exact ⟨.inr e, .inl z2⟩
        · cases z2
      exact (pg_name (X := mk b v) G (of_decide_eq_true z1) hl.1 hl.2).run pins s σ H u w Q I r hq
    | _ => cases h
  | tp is =>
    cases e with
    | Tuple l k p =>
      have h' : chkNames b.N sc fn is l = true := h
      obtain ⟨i1, i2, i3⟩ := names_ok G hs hf is l h' v hv
      exact pg_tup (X := mk b v) rfl i1 i2 i3
    | _ => cases h
theorem gNames_run {Q : L2.St → Hp → Prop} {H : Hp} : ∀ (is : List Nat) (vs : List V) (σ : L2.St), is.length = vs.length → Q (setV is vs σ) H → gNames is vs σ H Q
  | [], [], σ, _, h => ⟨rfl, h⟩
  | [], _ :: _, _, e, _ => by cases e
  | _ :: _, [], _, e, _ => by cases e
  | i :: is, v :: vs, σ, e, h => ⟨v, vs, rfl, gNames_run is vs _ (Nat.succ.inj e) h⟩
theorem setAll_len : ∀ (is : List Nat) (ds : List D) (ρ ρ' : Rho), setAll is ds ρ = some ρ' → is.length = ds.length
  | [], [], _, _, _ => rfl
  | [], _ :: _, _, _, h => by cases h
  | _ :: _, [], _, _, h => by cases h
  | i :: is, d :: ds, ρ, ρ', h => by
    show is.length + 1 = ds.length + 1
    rw [setAll_len is ds _ ρ' h]
/-- a target takes a datum -/
theorem tg_run {K : PySem.W.Frag} {F H : Hp} {t : Tg} {d : D} {v : V} {ρ ρ' : Rho} (sb : Same F H) (hd : Dv K F v d) (e : bindT t d ρ = some ρ') :
    ∃ vs ds, setAll (tgSlots t) ds ρ = some ρ' ∧ DvAll K F vs ds ∧ ∀ σ Q, Q (setV (tgSlots t) vs σ) H → gOf K t v σ H Q := by
  cases t with
  | nm i => exact ⟨[v], [d], e, .cons hd .nil, fun σ Q q => q⟩
  | tp is =>
    cases hd with
    | @tup a xs ds hq hd =>
      have e' : setAll is ds ρ = some ρ' := e
      have hl := setAll_len is ds ρ ρ' e'
      refine ⟨xs, ds, e', hd, fun σ Q q => ⟨a, xs, rfl, sqT_up sb hq, by rw [dvs_len hd, hl], gNames_run is xs σ (by rw [hl, dvs_len hd]) q⟩⟩
    | _ => cases e
theorem mx_set1 {K : PySem.W.Frag} {fo : Fo} {F H : Hp} {σ : L2.St} {ρ : Rho} {s : Fd} {i : Nat} {v : V} {d : D} (m : Mx K fo F H σ ρ s) (h : Dv K F v d) : Mx K fo F H (σ.set i (some v)) (ρ.set i (.val d)) s := by
  refine ⟨m.sub, by rw [List.length_set, List.length_set]; exact m.len, fun j c e => ?_, m.feed⟩
  by_cases hj : i = j
  · subst hj
    have hi : i < ρ.length := by
      have := (List.getElem?_eq_some_iff.mp e).1
      rwa [List.length_set] at this
    rw [List.getElem?_set_self hi] at e
    cases e
    exact ⟨v, List.getElem?_set_self (by rw [m.len]; exact hi), h⟩
  · rw [List.getElem?_set_ne hj] at e ⊢
    exact m.slot j c e
theorem mx_setAll {K : PySem.W.Frag} {fo : Fo} {F H : Hp} {s : Fd} : ∀ (is : List Nat) (vs : List V) (ds : List D) (σ : L2.St) (ρ ρ' : Rho), Mx K fo F H σ ρ s → DvAll K F vs ds → setAll is ds ρ = some ρ' → Mx K fo F H (setV is vs σ) ρ' s
  | [], _, _, σ, ρ, ρ', m, h, e => by
    cases h with
    | nil =>
      cases e
      exact m
    | cons _ _ => cases e
  | i :: is, _, _, σ, ρ, ρ', m, h, e => by
    cases h with
    | nil => cases e
    | cons h1 h2 => exact mx_setAll is _ _ _ _ ρ' (mx_set1 m h1) h2 e
/-! ### wiped slots -/
theorem wipe_in {σ : L2.St} {i : Nat} : ∀ {vs : List Nat}, i ∈ vs → (wipe σ vs)[i]? = (σ[i]?).map fun _ => none
  | [], h => nomatch h
  | v :: vs, h => by
    unfold wipe
    by_cases hi : v = i
    · subst hi
      by_cases hl : v < σ.length
      · rw [List.getElem?_set_self (by rw [wipe_length]; exact hl), List.getElem?_eq_getElem hl]
        rfl
      · rw [List.getElem?_eq_none (by rw [List.length_set, wipe_length]; omega), List.getElem?_eq_none (by omega)]
        rfl
    · rw [List.getElem?_set_ne hi]
      exact wipe_in ((List.mem_cons.mp h).resolve_left fun z => hi z.symm)
theorem setV_out {j : Nat} : ∀ (is : List Nat) (vs : List V) (σ : L2.St), j ∉ is → (setV is vs σ)[j]? = σ[j]?
  | [], _, _, _ => rfl
  | _ :: _, [], _, _ => rfl
  | i :: is, v :: vs, σ, h => by
    show (setV is vs (σ.set i (some v)))[j]? = _
    rw [setV_out is vs _ fun z => h (List.mem_cons_of_mem _ z), List.getElem?_set_ne fun z => h (by rw [z]; exact List.mem_cons_self)]
theorem setV_len : ∀ (is : List Nat) (vs : List V) (σ : L2.St), (setV is vs σ).length = σ.length
  | [], _, _ => rfl
  | _ :: _, [], _ => rfl
  | i :: is, v :: vs, σ => by
    show (setV is vs (σ.set i (some v))).length = _
    rw [setV_len is vs, List.length_set]
theorem wipe_setV {σ : L2.St} {is : List Nat} {xs : List V} {vs : List Nat} (h : ∀ i ∈ is, i ∈ vs) : wipe (setV is xs (wipe σ vs)) vs = wipe σ vs := by
  apply List.ext_getElem?
  intro j
  by_cases hj : j ∈ vs
  · rw [wipe_in hj, wipe_in hj]
    by_cases hl : j < σ.length
    · rw [List.getElem?_eq_getElem (by rw [setV_len, wipe_length]; exact hl), List.getElem?_eq_getElem hl]
      rfl
    · rw [List.getElem?_eq_none (by rw [setV_len, wipe_length]; omega), List.getElem?_eq_none (by omega)]
  · rw [wipe_out hj, setV_out is xs _ fun z => hj (h j z)]
theorem wipeR_len (ρ : Rho) : ∀ vs : List Nat, (wipeR ρ vs).length = ρ.length
  | [] => rfl
  | v :: vs => by
    unfold wipeR
    rw [List.length_set, wipeR_len ρ vs]
theorem mx_wipe {K : PySem.W.Frag} {fo : Fo} {F H : Hp} {σ : L2.St} {ρ : Rho} {s : Fd} (m : Mx K fo F H σ ρ s) : ∀ vs : List Nat, Mx K fo F H (wipe σ vs) (wipeR ρ vs) s
  | [] => m
  | v :: vs => by
    have ih := mx_wipe m vs
    refine ⟨m.sub, by rw [wipe_length, wipeR_len]; exact m.len, fun j c e => ?_, m.feed⟩
    unfold wipeR at e
    by_cases hj : v = j
    · subst hj
      have hi : v < (wipeR ρ vs).length := by
        have := (List.getElem?_eq_some_iff.mp e).1
        rwa [List.length_set] at this
      rw [List.getElem?_set_self hi] at e
      cases e
      trivial
    · rw [List.getElem?_set_ne hj] at e
      have := ih.slot j c e
      unfold wipe
      rw [List.getElem?_set_ne hj]
      exact this
end
end Qv

namespace Qv
open PySem PySem.Spec PyProof.Rows L2
/-- the context of a comprehension's block -/
def blkV (b : B) (v : Vr) (s : Shared) (H : Hp) (scope : Scope) (cenv : PySem.Env) (fp : List Addr) : Vr where
  s_0 := s
  H_0 := H
  env := cenv
  outer := b.stack
  ex := fp
  fn := fun x => scope.names.lookup x == some .cell
  pn := []
  xe := fun _ _ => False
theorem blk_eq (b : B) (v : Vr) (s : Shared) (H : Hp) (scope : Scope) (cenv : PySem.Env) (fp : List Addr) : (mk b v).blk s H scope cenv fp = mk b (blkV b v s H scope cenv fp) := rfl
def inBlk (b : B) (S : Vr → Prop) (scope : Scope) (v' : Vr) : Prop := ∃ v s H cl C fp, S v ∧ v' = blkV b v s H scope (compEnvC scope cl C v.env) fp
section
variable {kL : Str} {Γ : Gam} {n : Nat} {b : B} {S : Vr → Prop} {sc : Scope}
theorem blk_scope {scope : Scope} (hs : ∀ v, S v → v.env.scope = sc) : ∀ v', inBlk b S scope v' → v'.env.scope = relS scope sc := fun v' ⟨v, s, H, cl, C, fp, hv, e⟩ => by
  rw [e, ← hs v hv]
  rfl
theorem blk_fn {scope : Scope} : ∀ v', inBlk b S scope v' → v'.fn = cellFn scope := fun v' ⟨v, s, H, cl, C, fp, hv, e⟩ => by
  rw [e]
  rfl
/-- a comprehension's turns, reckoned -/
theorem compL_cons {f : D → M (Option D)} {x : D} {xs : List D} {s s' : Fd} {ys : List D} (h : compL f (x :: xs) s = some (ys, s')) : ∃ o s1 rs, f x s = some (o, s1) ∧ compL f xs s1 = some (rs, s') ∧ ys = (match o with
    | some y => y :: rs
    | none => rs) := by
  unfold compL at h
  obtain ⟨o, s1, h1, h⟩ := mb_some h
  obtain ⟨rs, s2, h2, h⟩ := mb_some h
  obtain ⟨h3, rfl⟩ := ret_some h
  exact ⟨o, s1, rs, h1, h2, h3.symm⟩
/-- one turn, reckoned: the target, the test, the element -/
def turnF (Γ : Gam) (elt : E) (t : Tg) (c : Eo) (ρ0 : Rho) (x : D) : M (Option D) := mb (ofO (bindT t x ρ0)) fun ρ' => mb (evC Γ c ρ') fun k => match k with
    | true => mb (evE Γ elt ρ') fun y => ret (some y)
    | false => ret none
theorem evN_comp {K : PySem.W.Frag} {fo : Fo} {σ : L2.St} {ρ : Rho} {wi : TI} {tt : TT} {te : TE} {t : Tg} {it : It} {c : Eo} {elt : E} {own : List (Str × Nat)}
    (hi : EvI K fo wi σ ρ (evI Γ it ρ)) (hc : ∀ σ ρ, EvB K fo tt σ ρ (evC Γ c ρ)) (he : ∀ σ ρ, EvD K fo te σ ρ (evE Γ elt ρ)) (hown : ∀ i ∈ tgSlots t, i ∈ own.map (·.2)) :
    EvN K fo (tLc wi (gOf K t) tt te (own.map (·.2))) σ ρ (evE Γ (.comp elt t it c own) ρ) := fun F H s ys s' m h Q q => by
  unfold evE at h
  obtain ⟨xs, s1, e1, h⟩ := mb_some h
  obtain ⟨zs, s2, e2, h⟩ := mb_some h
  have hlen : lenOk zs.length = true ∧ zs = ys ∧ s2 = s' := by
    cases hz : lenOk zs.length with
    | false => rw [hz] at h; cases h
    | true =>
      rw [hz] at h
      obtain ⟨h1, h2⟩ := ret_some (show ret (PyData.list zs) s2 = some (.list ys, s') from h)
      cases h1
      exact ⟨rfl, rfl, h2.symm⟩
  obtain ⟨hz, rfl, rfl⟩ := hlen
  have hz := lenOk_le hz
  have e2 : compL (turnF Γ elt t c (wipeR ρ (own.map (·.2)))) xs s1 = some (zs, s2) := e2
  refine hi F H s xs s1 m e1 _ fun J F1 H1 g1 f1 wk D hD => ?_
  have hD0 : H D = none := g1.back f1 hD
  refine ⟨fun i mm H' => mm = xs.length - i ∧ i ≤ xs.length ∧ ∃ F' sI acc ds rs, Gr fo F1 H1 F' H' ∧ FeedInv K fo F' H' sI ∧ H' D = some (.lst acc) ∧ F' D = none ∧ DvAll K F' acc ds ∧
      compL (turnF Γ elt t c (wipeR ρ (own.map (·.2)))) (xs.drop i) sI = some (rs, s2) ∧ zs = ds ++ rs, ⟨xs.length, by omega, Nat.zero_le _, ?_⟩, ?_⟩
  · have g : Gr none F1 H1 F1 (upd H1 D (.lst [])) := Gr.free g1.sub hD
    exact ⟨F1, s1, [], [], zs, g.any, f1.gr g, upd_same, g1.sub.free hD, .nil, e2, rfl⟩
  · rintro i mm H' ⟨rfl, hle, F', sI, acc, ds, rs, g, f, hDl, hDf, da, er, ez⟩
    obtain ⟨w1, w2⟩ := wk F' H' g.up g.sub
    by_cases hlt : i < xs.length
    · obtain ⟨go, yl⟩ := w1 i xs[i] (List.getElem?_eq_getElem hlt)
      rw [List.drop_eq_getElem_cons hlt] at er
      obtain ⟨o, sJ, rs', t1, t2, t3⟩ := compL_cons er
      refine .inr ⟨go, fun H'' => ∃ F'' acc' ds' rs'', Gr fo F1 H1 F'' H'' ∧ FeedInv K fo F'' H'' sJ ∧ H'' D = some (.lst acc') ∧ F'' D = none ∧ DvAll K F'' acc' ds' ∧
        compL (turnF Γ elt t c (wipeR ρ (own.map (·.2)))) (xs.drop (i + 1)) sJ = some (rs'', s2) ∧ zs = ds' ++ rs'', ?_, ?_⟩
      · rintro H'' ⟨F'', acc', ds', rs'', z⟩
        exact ⟨xs.length - (i + 1), by omega, rfl, hlt, F'', sJ, acc', ds', rs'', z⟩
      · intro x H2 hy
        obtain ⟨F2, gy, dx⟩ := yl x H2 hy
        have keepD : ∀ {A A' : Hp} {G G' : Hp}, Gr fo A G A' G' → FeedInv K fo A' G' sI ∨ True → A D = none → G D = some (.lst acc) → (∀ k, fo ≠ some (D, k)) → G' D = some (.lst acc) ∧ A' D = none := fun gg _ h1 h2 h3 => gg.keep D _ h2 h1 h3
        have hnf : ∀ k, fo ≠ some (D, k) := fun k z => by
          subst z
          obtain ⟨_, c0, hc0, _⟩ := f
          rw [hDl] at hc0
          cases hc0
        obtain ⟨hD2, hF2⟩ := gy.any.keep D _ hDl hDf hnf
        have gA : Gr fo F1 H1 F2 H2 := g.trans gy.any
        have fA : FeedInv K fo F2 H2 sI := f.gr gy
        unfold turnF at t1
        obtain ⟨ρ', sK, b0, u1⟩ := mb_some t1
        obtain ⟨b1, rfl⟩ := ofO_some b0
        obtain ⟨vs, dl, b2, b3, b4⟩ := tg_run gy.sub dx b1
        have mW : Mx K fo F2 H2 (wipe σ (own.map (·.2))) (wipeR ρ (own.map (·.2))) sK := mx_wipe (m.gr (g1.trans gA) fA) _
        have mS : Mx K fo F2 H2 (setV (tgSlots t) vs (wipe σ (own.map (·.2)))) ρ' sK := mx_setAll _ _ _ _ _ _ mW b3 b2
        refine b4 _ _ ⟨wipe_setV hown, ?_⟩
        obtain ⟨k, sL, c1, u2⟩ := mb_some u1
        refine hc _ ρ' F2 H2 sK k sL mS c1 _ fun F3 H3 g3 f3 => ?_
        obtain ⟨hD3, hF3⟩ := g3.keep D _ hD2 hF2 hnf
        cases k with
        | false =>
          obtain ⟨rfl, rfl⟩ := ret_some (show ret (none : Option PyData) sL = some (o, sJ) from u2)
          rw [if_neg Bool.false_ne_true]
          exact ⟨F3, acc, ds, rs', gA.trans g3, f3, hD3, hF3, dvs_up (gy.up.trans g3.up) _ _ da, t2, by rw [ez, t3]⟩
        | true =>
          rw [if_pos rfl]
          obtain ⟨y, sM, c2, u3⟩ := mb_some u2
          obtain ⟨rfl, rfl⟩ := ret_some u3
          refine he _ ρ' F3 H3 sL y sJ (mS.gr g3 f3) c2 _ fun u F4 H4 g4 f4 d4 => ?_
          obtain ⟨hD4, hF4⟩ := g4.keep D _ hD3 hF3 hnf
          have da4 : DvAll K F4 acc ds := dvs_up ((gy.up.trans g3.up).trans g4.up) _ _ da
          refine ⟨acc, hD4, ?_, F4, acc ++ [u], ds ++ [y], rs', ?_, ?_, upd_same, hF4, dvs_app da4 (.cons d4 .nil), t2, by rw [ez, t3]; simp⟩
          · have hl1 : acc.length = ds.length := dvs_len da
            have hl2 : ds.length ≤ zs.length := by
              rw [ez, List.length_append]
              omega
            exact lt_line (by omega)
          · have gB : Gr fo F1 H1 F4 H4 := (gA.trans g3).trans g4
            refine ⟨gB.up, fun a o ha => ?_, fun a o ha fa hk => ?_, fun f0 k c kvs ef n ha => ?_⟩
            · have hne : a ≠ D := fun z => by
                rw [z, hF4] at ha
                cases ha
              rw [upd_ne hne]
              exact gB.sub a o ha
            · have hne : a ≠ D := ne_of_none ha hD
              rw [upd_ne hne]
              exact gB.keep a o ha fa hk
            · rw [upd_ne (ne_of_none ha hD)]
              exact gB.fd f0 k c kvs ef n ha
          · cases fo with
            | none => trivial
            | some w =>
              obtain ⟨f0, k0⟩ := w
              obtain ⟨n0, c0, hc0, hl0⟩ := f4
              have hne : f0 ≠ D := fun z => hnf k0 (by rw [z])
              exact ⟨n0, c0, by rw [upd_ne hne]; exact hc0, hl0⟩
    · have hi : i = xs.length := by omega
      subst hi
      rw [List.drop_length] at er
      obtain ⟨rfl, rfl⟩ := ret_some (show ret ([] : List PyData) sI = some (rs, s2) from er)
      refine .inl ⟨w2, ?_⟩
      have ey : zs = ds := by simpa using ez
      subst ey
      exact q D acc F' H' (g1.trans g) f hD0 hDl hDf da
theorem ge_comp {x tg iter : Expr} {ifs : List Expr} {scope : Scope} {t : Tg} {it : It} {c : Eo} {elt : E} {own : List (Str × Nat)} (G : GOk kL Γ n b) (hs : ∀ v, S v → v.env.scope = sc)
    (hb : blkC b.N sc scope own = true) (hset : notSet iter = true) (hown : ∀ i ∈ tgSlots t, i ∈ own.map (·.2)) (ht : chkTg b.N (relS scope sc) (cellFn scope) t tg = true)
    (hi : GI kL b S tg iter (evI Γ it)) (hc : GC kL b (inBlk b S scope) ifs (evC Γ c)) (he : GE kL b (inBlk b S scope) x (evE Γ elt)) :
    ∃ wi tt te, (∀ v, S v → PI (mk b v) tg iter wi ∧ BlkOk (mk b v).N (mk b v).env.scope scope own ∧
        (∀ (s : Shared) (H : Hp) (C : Addr) (cl : List (Str × Addr)) (fp : List Addr), PG ((mk b v).blk s H scope (compEnvC scope cl C (mk b v).env) fp) tg (gOf b.K t)) ∧
        (∀ (s : Shared) (H : Hp) (C : Addr) (cl : List (Str × Addr)) (fp : List Addr), PTs ((mk b v).blk s H scope (compEnvC scope cl C (mk b v).env) fp) ifs tt) ∧
        (∀ (s : Shared) (H : Hp) (C : Addr) (cl : List (Str × Addr)) (fp : List Addr), PE ((mk b v).blk s H scope (compEnvC scope cl C (mk b v).env) fp) x te)) ∧
      ∀ fo σ ρ, FoL kL fo → EvN b.K fo (tLc wi (gOf b.K t) tt te (own.map (·.2))) σ ρ (evE Γ (.comp elt t it c own) ρ) := by
  obtain ⟨wi, i1, i2⟩ := hi
  obtain ⟨tt, c1, c2⟩ := hc
  obtain ⟨te, e1, e2⟩ := he
  refine ⟨wi, tt, te, fun v hv => ⟨i1 v hv, ?_, fun s H C cl fp => ?_, fun s H C cl fp => ?_, fun s H C cl fp => ?_⟩, fun fo σ ρ hf => evN_comp (i2 fo σ ρ hf) (fun σ ρ => c2 fo σ ρ hf) (fun σ ρ => e2 fo σ ρ hf) hown⟩
  · show BlkOk b.N v.env.scope scope own
    rw [hs v hv]
    exact blkOk_by hb
  · exact tg_pg (S := inBlk b S scope) G.nd (blk_scope hs) blk_fn ht _ ⟨v, s, H, cl, C, fp, hv, rfl⟩
  · exact c1 _ ⟨v, s, H, cl, C, fp, hv, rfl⟩
  · exact e1 _ ⟨v, s, H, cl, C, fp, hv, rfl⟩
theorem comp_list {ρ : Rho} {t : Tg} {it : It} {c : Eo} {elt : E} {own : List (Str × Nat)} : ∀ s d s', evE Γ (.comp elt t it c own) ρ s = some (d, s') → ∃ ds, d = .list ds := fun s d s' h => by
  unfold evE at h
  obtain ⟨xs, s1, e1, h⟩ := mb_some h
  obtain ⟨zs, s2, e2, h⟩ := mb_some h
  cases hz : lenOk zs.length with
  | false => rw [hz] at h; cases h
  | true =>
    rw [hz] at h
    obtain ⟨h1, h2⟩ := ret_some (show ret (PyData.list zs) s2 = some (d, s') from h)
    exact ⟨zs, h1.symm⟩
theorem gc_non : GC kL b S [] (evC Γ .non) := ⟨tYes, fun _ _ => pts_nil, fun fo σ ρ _ F H s o s' m h Q q => by
  unfold evC at h
  obtain ⟨rfl, rfl⟩ := ret_some h
  exact q F H (Gr.refl m.sub) m.feed⟩
theorem gc_som {x : Expr} {e : E} (h : GT kL b S x (evE Γ e)) : GC kL b S [x] (evC Γ (.som e)) := by
  obtain ⟨tt, h1, h2⟩ := h
  refine ⟨tt, fun v hv => pts_one (h1 v hv), fun fo σ ρ hf F H s k s' m h Q q => ?_⟩
  unfold evC at h
  obtain ⟨d, s1, e1, h⟩ := mb_some h
  obtain ⟨e2, rfl⟩ := ofO_some h
  cases d with
  | bool w =>
    have e3 : w = k := Option.some.inj e2
    subst e3
    exact h2 fo σ ρ hf F H s w s' m e1 Q q
  | _ => cases e2
end
/-! ### all expressions -/
theorem and2 {a b : Bool} (h : (a && b) = true) : a = true ∧ b = true := Bool.and_eq_true_iff.mp h
theorem notB {a : Bool} (h : (!a) = true) : a = false := by cases a <;> first | rfl | cases h
section
variable {kL : Str} {Γ : Gam} {n : Nat} {b : B}
mutual
theorem sE (G : GOk kL Γ n b) : ∀ (m : E) (S : Vr → Prop) (sc : Scope) (e : Expr), (∀ v, S v → v.env.scope = sc) → chkE kL b.N sc m e = true → GE kL b S e (evE Γ m)
  | .v i, S, sc, e, hs, h => by
    cases e with
    | Name x p =>
      obtain ⟨h1, h2⟩ := and2 h
      obtain ⟨h2, h3⟩ := and2 h2
      exact ge_v hs (of_decide_eq_true h1) h2 h3
    | _ => cases h
  | .c d, S, sc, e, hs, h => by
    cases e with
    | Constant k j p => exact ge_c h
    | _ => cases h
  | .g x, S, sc, e, hs, h => by
    cases e with
    | Name y p =>
      obtain ⟨h1, h2⟩ := and2 h
      obtain ⟨h2, h3⟩ := and2 h2
      have e := of_decide_eq_true h1
      subst e
      exact ge_g G hs h2 h3
    | _ => cases h
  | .tup es, S, sc, e, hs, h => by
    cases e with
    | Tuple l k p =>
      obtain ⟨h1, h2⟩ := and2 h
      exact ge_tup (of_decide_eq_true h1) (sL G es S sc l hs h2)
    | _ => cases h
  | .lst es, S, sc, e, hs, h => by
    cases e with
    | List l p =>
      obtain ⟨h1, h2⟩ := and2 h
      exact ge_lst (of_decide_eq_true h1) (sL G es S sc l hs h2)
    | _ => cases h
  | .bin o x y, S, sc, e, hs, h => by
    cases e with
    | BinOp l op r p =>
      obtain ⟨h1, h2⟩ := and2 h
      obtain ⟨h2, h3⟩ := and2 h2
      have e := of_decide_eq_true h1
      subst e
      exact ge_bin (sE G x S sc l hs h2) (sE G y S sc r hs h3)
    | _ => cases h
  | .neg x, S, sc, e, hs, h => by
    cases e with
    | UnaryOp op l p =>
      obtain ⟨h1, h2⟩ := and2 h
      have e := of_decide_eq_true h1
      subst e
      exact ge_neg (sE G x S sc l hs h2)
    | _ => cases h
  | .cmp o x y, S, sc, e, hs, h => by
    cases e with
    | Compare l ops rs p =>
      match ops, rs, h with
      | [op], [r], h =>
        obtain ⟨h1, h2⟩ := and2 h
        obtain ⟨h1, h4⟩ := and2 h1
        obtain ⟨h2, h3⟩ := and2 h2
        have e := of_decide_eq_true h1
        subst e
        exact (ge_cmp G.room.units (notB h4) (sE G x S sc l hs h2) (sE G y S sc r hs h3)).1
      | [], _, h => cases h
      | [_], [], h => cases h
      | [_], _ :: _ :: _, h => cases h
      | _ :: _ :: _, _, h => cases h
    | _ => cases h
  | .chn o o' x y z, S, sc, e, hs, h => by
    cases e with
    | Compare l ops rs p =>
      match ops, rs, h with
      | [op, op'], [r, q], h =>
        obtain ⟨h1, h2⟩ := and2 h
        obtain ⟨h1, h4⟩ := and2 h1
        obtain ⟨h4, h5⟩ := and2 h4
        obtain ⟨h2, h3⟩ := and2 h2
        obtain ⟨h3, h6⟩ := and2 h3
        have e := of_decide_eq_true h1
        have e' := of_decide_eq_true h4
        subst e e'
        exact (ge_chn G.room.units (notB h5) (sE G x S sc l hs h2) (sE G y S sc r hs h3) (sE G z S sc q hs h6)).1
      | [], _, h => cases h
      | [_], _, h => cases h
      | [_, _], [], h => cases h
      | [_, _], [_], h => cases h
      | [_, _], _ :: _ :: _ :: _, h => cases h
      | _ :: _ :: _ :: _, _, h => cases h
    | _ => cases h
  | .isN x, S, sc, e, hs, h => by
    unfold chkE at h
    split at h
    · exact (ge_isN (sE G x S sc _ hs h)).1
    · cases h
  | .ntN x, S, sc, e, hs, h => by
    unfold chkE at h
    split at h
    · exact (ge_ntN (sE G x S sc _ hs h)).1
    · cases h
  | .and es, S, sc, e, hs, h => by
    unfold chkE at h
    split at h
    · obtain ⟨h1, h2⟩ := and2 h
      exact sAnd G es S sc _ _ hs (of_decide_eq_true h1) h2
    · cases h
  | .or es, S, sc, e, hs, h => by
    unfold chkE at h
    split at h
    · obtain ⟨h1, h2⟩ := and2 h
      exact sOr G es S sc _ _ hs (of_decide_eq_true h1) h2
    · cases h
  | .not x, S, sc, e, hs, h => by
    cases e with
    | UnaryOp op l p =>
      obtain ⟨h1, h2⟩ := and2 h
      have e := of_decide_eq_true h1
      subst e
      exact ge_not (sE G x S sc l hs h2)
    | _ => cases h
  | .ite c x y, S, sc, e, hs, h => by
    cases e with
    | IfExp t l r p =>
      obtain ⟨h1, h2⟩ := and2 h
      obtain ⟨h1, h4⟩ := and2 h1
      obtain ⟨h2, h3⟩ := and2 h2
      exact ge_ite (sT G c S sc t hs h1 h4) (sE G x S sc l hs h2) (sE G y S sc r hs h3)
    | _ => cases h
  | .ix x y, S, sc, e, hs, h => by
    cases e with
    | Subscript l r p =>
      obtain ⟨h1, h2⟩ := and2 h
      obtain ⟨h2, h3⟩ := and2 h2
      exact ge_ix h1 (sE G x S sc l hs h2) (sE G y S sc r hs h3)
    | _ => cases h
  | .sl x lo hi, S, sc, e, hs, h => by
    unfold chkE at h
    split at h
    · obtain ⟨h1, h2⟩ := and2 h
      obtain ⟨h2, h3⟩ := and2 h2
      exact ge_sl (sE G x S sc _ hs h1) (sO G lo S sc _ hs h2) (sO G hi S sc _ hs h3)
    · cases h
  | .call f es, S, sc, e, hs, h => by
    unfold chkE at h
    split at h
    · obtain ⟨h1, h2⟩ := and2 h
      obtain ⟨h1, h3⟩ := and2 h1
      obtain ⟨h3, h4⟩ := and2 h3
      have e := of_decide_eq_true h1
      subst e
      exact ge_call G hs h3 h4 h2 (sA G es S sc _ hs h2)
    · cases h
  | .ckw f es k a, S, sc, e, hs, h => by
    unfold chkE at h
    split at h
    · obtain ⟨k1, k2⟩ := and2 h
      obtain ⟨k3, k4⟩ := and2 k1
      obtain ⟨k5, k6⟩ := and2 k4
      obtain ⟨k7, k8⟩ := and2 k6
      obtain ⟨k9, k10⟩ := and2 k8
      obtain ⟨k11, k12⟩ := and2 k2
      have e1 := of_decide_eq_true k3
      have e2 := of_decide_eq_true k7
      subst e1 e2
      exact ge_ckw G hs k5 k9 k10 k11 (sA G es S sc _ hs k11) (sE G a S sc _ hs k12)
    · cases h
  | .bi o es, S, sc, e, hs, h => by
    unfold chkE at h
    split at h
    · obtain ⟨h1, h2⟩ := and2 h
      obtain ⟨h1, h3⟩ := and2 h1
      have e := of_decide_eq_true h1
      subst e
      exact ge_bi G hs h3 h2 (sL G es S sc _ hs h2)
    · cases h
  | .isi x t, S, sc, e, hs, h => by
    unfold chkE at h
    split at h
    · obtain ⟨h1, h2⟩ := and2 h
      obtain ⟨k1, k3⟩ := and2 h1
      obtain ⟨q3, k4⟩ := and2 k3
      obtain ⟨q4, q5⟩ := and2 k4
      obtain ⟨q2, q6⟩ := and2 h2
      have e1 := of_decide_eq_true k1
      have e2 := of_decide_eq_true q4
      subst e1 e2
      exact ge_isi G hs q3 q5 q2 (sE G x S sc _ hs q6)
    · cases h
  | .inK neg x y, S, sc, e, hs, h => by
    unfold chkE at h
    split at h
    · obtain ⟨h1, h2⟩ := and2 h
      obtain ⟨h1, h3⟩ := and2 h1
      obtain ⟨h3, h4⟩ := and2 h3
      obtain ⟨h4, h5⟩ := and2 h4
      have e1 := of_decide_eq_true h1
      have e2 := of_decide_eq_true h3
      subst e1 e2
      exact (ge_inK G hs h4 h5 (sE G x S sc _ hs h2)).1
    · cases h
  | .getK y x, S, sc, e, hs, h => by
    unfold chkE at h
    split at h
    · obtain ⟨h1, h2⟩ := and2 h
      obtain ⟨h1, h3⟩ := and2 h1
      obtain ⟨h3, h4⟩ := and2 h3
      obtain ⟨h4, h5⟩ := and2 h4
      have e1 := of_decide_eq_true h1
      subst e1
      exact ge_getK G hs h3 h4 h5 (sE G x S sc _ hs h2)
    · cases h
  | .mth o x es, S, sc, e, hs, h => by
    unfold chkE at h
    split at h
    · obtain ⟨h1, h2⟩ := and2 h
      obtain ⟨h1, h3⟩ := and2 h1
      obtain ⟨h3, h4⟩ := and2 h3
      obtain ⟨h4, h5⟩ := and2 h4
      obtain ⟨h2, h6⟩ := and2 h2
      have e1 := of_decide_eq_true h1
      subst e1
      exact ge_mth h3 (of_decide_eq_true h4) h5 h6 (sE G x S sc _ hs h2) (sL G es S sc _ hs h6)
    · cases h
  | .comp elt t it c own, S, sc, e, hs, h => by
    unfold chkE at h
    split at h
    · obtain ⟨h1, h2⟩ := and2 h
      obtain ⟨h1, h3⟩ := and2 h1
      obtain ⟨h3, h4⟩ := and2 h3
      obtain ⟨h2, h5⟩ := and2 h2
      obtain ⟨h5, h6⟩ := and2 h5
      obtain ⟨h6, h7⟩ := and2 h6
      have hown : ∀ i ∈ tgSlots t, i ∈ own.map (·.2) := fun i hi => List.contains_iff_mem.mp (List.all_eq_true.mp h4 i hi)
      obtain ⟨wi, tt, te, k1, k2⟩ := ge_comp G hs h1 h3 hown h5 (sI G it S sc _ _ hs h2) (sC G c (inBlk b S _) _ _ (blk_scope hs) h6) (sE G elt (inBlk b S _) _ _ (blk_scope hs) h7)
      refine ⟨_, fun v hv => ?_, fun fo σ ρ hf => (k2 fo σ ρ hf).evD comp_list⟩
      obtain ⟨j1, j2, j3, j4, j5⟩ := k1 v hv
      exact pe_lc rfl G.nd j1 j2 j3 j4 j5 (set_of h3 _)
    · cases h
  | .fg i k, S, sc, e, hs, h => by
    unfold chkE at h
    split at h
    · obtain ⟨h1, k2⟩ := and2 h
      obtain ⟨q2, k3⟩ := and2 k2
      obtain ⟨q3, q4⟩ := and2 k3
      have e1 := of_decide_eq_true q4
      subst e1
      exact ge_fg G hs (of_decide_eq_true h1) q2 q3
    · cases h
  | .lrg a, S, sc, e, hs, h => by
    unfold chkE at h
    split at h
    · obtain ⟨h1, h2⟩ := and2 h
      obtain ⟨k1, k2⟩ := and2 h1
      obtain ⟨k3, k4⟩ := and2 k2
      obtain ⟨k5, k6⟩ := and2 k4
      obtain ⟨k7, k8⟩ := and2 k6
      have e1 := of_decide_eq_true k1
      have e2 := of_decide_eq_true k5
      subst e1 e2
      exact ge_lrg G hs k3 k7 k8 (sE G a S sc _ hs h2)
    · cases h
theorem sT (G : GOk kL Γ n b) : ∀ (m : E) (S : Vr → Prop) (sc : Scope) (e : Expr), (∀ v, S v → v.env.scope = sc) → tst m e = true → chkE kL b.N sc m e = true → GT kL b S e (evE Γ m)
  | .v i, S, sc, e, hs, t, h => gt_plain t (sE G (.v i) S sc e hs h)
  | .c d, S, sc, e, hs, t, h => gt_plain t (sE G (.c d) S sc e hs h)
  | .g x, S, sc, e, hs, t, h => gt_plain t (sE G (.g x) S sc e hs h)
  | .tup es, S, sc, e, hs, t, h => gt_plain t (sE G (.tup es) S sc e hs h)
  | .lst es, S, sc, e, hs, t, h => gt_plain t (sE G (.lst es) S sc e hs h)
  | .bin o x y, S, sc, e, hs, t, h => gt_plain t (sE G (.bin o x y) S sc e hs h)
  | .neg x, S, sc, e, hs, t, h => gt_plain t (sE G (.neg x) S sc e hs h)
  | .ite c x y, S, sc, e, hs, t, h => gt_plain t (sE G (.ite c x y) S sc e hs h)
  | .ix x y, S, sc, e, hs, t, h => gt_plain t (sE G (.ix x y) S sc e hs h)
  | .sl x lo hi, S, sc, e, hs, t, h => gt_plain t (sE G (.sl x lo hi) S sc e hs h)
  | .call f es, S, sc, e, hs, t, h => gt_plain t (sE G (.call f es) S sc e hs h)
  | .ckw f es k a, S, sc, e, hs, t, h => gt_plain t (sE G (.ckw f es k a) S sc e hs h)
  | .bi o es, S, sc, e, hs, t, h => gt_plain t (sE G (.bi o es) S sc e hs h)
  | .isi x k, S, sc, e, hs, t, h => gt_plain t (sE G (.isi x k) S sc e hs h)
  | .getK y x, S, sc, e, hs, t, h => gt_plain t (sE G (.getK y x) S sc e hs h)
  | .mth o x es, S, sc, e, hs, t, h => gt_plain t (sE G (.mth o x es) S sc e hs h)
  | .comp elt k it c own, S, sc, e, hs, t, h => gt_plain t (sE G (.comp elt k it c own) S sc e hs h)
  | .lrg a, S, sc, e, hs, t, h => gt_plain t (sE G (.lrg a) S sc e hs h)
  | .fg i k, S, sc, e, hs, t, h => gt_plain t (sE G (.fg i k) S sc e hs h)
  | .cmp o x y, S, sc, e, hs, t, h => by
    cases e with
    | Compare l ops rs p =>
      match ops, rs, h with
      | [op], [r], h =>
        obtain ⟨h1, h2⟩ := and2 h
        obtain ⟨h1, h4⟩ := and2 h1
        obtain ⟨h2, h3⟩ := and2 h2
        have e := of_decide_eq_true h1
        subst e
        exact (ge_cmp G.room.units (notB h4) (sE G x S sc l hs h2) (sE G y S sc r hs h3)).2
      | [], _, h => cases h
      | [_], [], h => cases h
      | [_], _ :: _ :: _, h => cases h
      | _ :: _ :: _, _, h => cases h
    | _ => cases h
  | .chn o o' x y z, S, sc, e, hs, t, h => by
    cases e with
    | Compare l ops rs p =>
      match ops, rs, h with
      | [op, op'], [r, q], h =>
        obtain ⟨h1, h2⟩ := and2 h
        obtain ⟨h1, h4⟩ := and2 h1
        obtain ⟨h4, h5⟩ := and2 h4
        obtain ⟨h2, h3⟩ := and2 h2
        obtain ⟨h3, h6⟩ := and2 h3
        have e := of_decide_eq_true h1
        have e' := of_decide_eq_true h4
        subst e e'
        exact (ge_chn G.room.units (notB h5) (sE G x S sc l hs h2) (sE G y S sc r hs h3) (sE G z S sc q hs h6)).2
      | [], _, h => cases h
      | [_], _, h => cases h
      | [_, _], [], h => cases h
      | [_, _], [_], h => cases h
      | [_, _], _ :: _ :: _ :: _, h => cases h
      | _ :: _ :: _ :: _, _, h => cases h
    | _ => cases h
  | .isN x, S, sc, e, hs, t, h => by
    unfold chkE at h
    split at h
    · exact (ge_isN (sE G x S sc _ hs h)).2
    · cases h
  | .ntN x, S, sc, e, hs, t, h => by
    unfold chkE at h
    split at h
    · exact (ge_ntN (sE G x S sc _ hs h)).2
    · cases h
  | .inK neg x y, S, sc, e, hs, t, h => by
    unfold chkE at h
    split at h
    · obtain ⟨h1, h2⟩ := and2 h
      obtain ⟨h1, h3⟩ := and2 h1
      obtain ⟨h3, h4⟩ := and2 h3
      obtain ⟨h4, h5⟩ := and2 h4
      have e1 := of_decide_eq_true h1
      have e2 := of_decide_eq_true h3
      subst e1 e2
      exact (ge_inK G hs h4 h5 (sE G x S sc _ hs h2)).2
    · cases h
  | .and es, S, sc, e, hs, t, h => by
    unfold chkE at h
    split at h
    · obtain ⟨h1, h2⟩ := and2 h
      obtain ⟨tt, w1, w2⟩ := sAndT G es S sc _ _ hs (of_decide_eq_true h1) t h2
      exact ⟨tt, fun v hv => (w1 v hv).pt, w2⟩
    · cases h
  | .or es, S, sc, e, hs, t, h => by
    unfold chkE at h
    split at h
    · obtain ⟨h1, h2⟩ := and2 h
      obtain ⟨tt, w1, w2⟩ := sOrT G es S sc _ _ hs (of_decide_eq_true h1) t h2
      exact ⟨tt, fun v hv => (w1 v hv).pt, w2⟩
    · cases h
  | .not x, S, sc, e, hs, t, h => by
    cases e with
    | UnaryOp op l p =>
      obtain ⟨h1, h2⟩ := and2 h
      have e := of_decide_eq_true h1
      subst e
      exact gt_not (sT G x S sc l hs t h2)
    | _ => cases h
theorem sL (G : GOk kL Γ n b) : ∀ (es : Es) (S : Vr → Prop) (sc : Scope) (l : List Expr), (∀ v, S v → v.env.scope = sc) → chkL kL b.N sc es l = true → GL kL b S l (evL Γ es)
  | .nil, S, sc, [], hs, h => gl_nil
  | .nil, S, sc, _ :: _, hs, h => by cases h
  | .cons e es, S, sc, [], hs, h => by cases h
  | .cons e es, S, sc, x :: r, hs, h => by
    obtain ⟨h1, h2⟩ := and2 h
    obtain ⟨h2, h3⟩ := and2 h2
    exact gl_cons h1 (sE G e S sc x hs h2) (sL G es S sc r hs h3)
theorem sA (G : GOk kL Γ n b) : ∀ (es : Es) (S : Vr → Prop) (sc : Scope) (l : List Expr), (∀ v, S v → v.env.scope = sc) → chkL kL b.N sc es l = true → GA kL b S l (evA Γ es)
  | .nil, S, sc, [], hs, h => ga_nil
  | .nil, S, sc, _ :: _, hs, h => by cases h
  | .cons e es, S, sc, [], hs, h => by cases h
  | .cons e es, S, sc, x :: r, hs, h => by
    obtain ⟨h1, h2⟩ := and2 h
    obtain ⟨h2, h3⟩ := and2 h2
    have ih := sA G es S sc r hs h3
    have ge := sE G e S sc x hs h2
    cases e with
    | v i =>
      cases x with
      | Name y p =>
        obtain ⟨k1, k2⟩ := and2 h2
        obtain ⟨k2, k3⟩ := and2 k2
        exact ga_cons h1 (fun v hv => pe_var (X := mk b v) (of_decide_eq_true k1) (by show Vis v.env.scope y; rw [hs v hv]; exact vis_of k2) (nm_of k3).1 (nm_of k3).2.1) (fun fo σ ρ _ => ec_var) ih
      | _ => cases h2
    | _ =>
      obtain ⟨te, a1, a2⟩ := ge
      exact ga_cons h1 a1 (fun fo σ ρ hf => ec_val (a2 fo σ ρ hf)) ih
theorem sO (G : GOk kL Γ n b) : ∀ (o : Eo) (S : Vr → Prop) (sc : Scope) (l : Option Expr), (∀ v, S v → v.env.scope = sc) → chkO kL b.N sc o l = true → GO kL b S l (evO Γ o)
  | .non, S, sc, none, hs, h => go_non
  | .non, S, sc, some _, hs, h => by cases h
  | .som e, S, sc, none, hs, h => by cases h
  | .som e, S, sc, some x, hs, h => go_som (sE G e S sc x hs h)
theorem sC (G : GOk kL Γ n b) : ∀ (o : Eo) (S : Vr → Prop) (sc : Scope) (l : List Expr), (∀ v, S v → v.env.scope = sc) → chkC kL b.N sc o l = true → GC kL b S l (evC Γ o)
  | .non, S, sc, [], hs, h => gc_non
  | .non, S, sc, _ :: _, hs, h => by cases h
  | .som e, S, sc, [], hs, h => by cases h
  | .som e, S, sc, [x], hs, h => by
    obtain ⟨h1, h2⟩ := and2 h
    exact gc_som (sT G e S sc x hs h1 h2)
  | .som e, S, sc, _ :: _ :: _, hs, h => by cases h
theorem sI (G : GOk kL Γ n b) : ∀ (i : It) (S : Vr → Prop) (sc : Scope) (tg e : Expr), (∀ v, S v → v.env.scope = sc) → chkI kL b.N sc i tg e = true → GI kL b S tg e (evI Γ i)
  | .dat a, S, sc, tg, e, hs, h => gi_dat (sE G a S sc e hs h)
  | .zip x y, S, sc, tg, e, hs, h => by
    obtain ⟨h0, hh⟩ := and2 h
    clear h
    have h := hh
    clear hh
    cases tg with
    | Tuple l k p =>
      split at h
      · obtain ⟨h1, h2⟩ := and2 h
        obtain ⟨h1, h3⟩ := and2 h1
        obtain ⟨h3, h4⟩ := and2 h3
        obtain ⟨h4, h5⟩ := and2 h4
        obtain ⟨h2, h6⟩ := and2 h2
        have e := of_decide_eq_true h1
        subst e
        exact gi_zip G hs h3 h4 h5 (sE G x S sc _ hs h2) (sE G y S sc _ hs h6)
      · cases h
    | _ => cases h0
  | .enm x, S, sc, tg, e, hs, h => by
    obtain ⟨h0, hh⟩ := and2 h
    clear h
    have h := hh
    clear hh
    cases tg with
    | Tuple l k p =>
      split at h
      · obtain ⟨h1, h2⟩ := and2 h
        obtain ⟨h1, h3⟩ := and2 h1
        obtain ⟨h3, h4⟩ := and2 h3
        have e := of_decide_eq_true h1
        subst e
        exact gi_enm G hs h3 h4 (sE G x S sc _ hs h2)
      · cases h
    | _ => cases h0
  | .rng x, S, sc, tg, e, hs, h => by
    unfold chkI at h
    split at h
    · obtain ⟨h1, h2⟩ := and2 h
      obtain ⟨h1, h3⟩ := and2 h1
      obtain ⟨h3, h4⟩ := and2 h3
      have e := of_decide_eq_true h1
      subst e
      exact gi_rng G hs h3 h4 (sE G x S sc _ hs h2)
    · cases h
  | .rng2 x y, S, sc, tg, e, hs, h => by
    unfold chkI at h
    split at h
    · obtain ⟨h1, h2⟩ := and2 h
      obtain ⟨h1, h3⟩ := and2 h1
      obtain ⟨h3, h4⟩ := and2 h3
      obtain ⟨h4, h5⟩ := and2 h4
      obtain ⟨h2, h6⟩ := and2 h2
      have e := of_decide_eq_true h1
      subst e
      exact gi_rng2 G hs h3 h4 h5 (sE G x S sc _ hs h2) (sE G y S sc _ hs h6)
    · cases h
theorem sAnd (G : GOk kL Γ n b) : ∀ (es : Es) (S : Vr → Prop) (sc : Scope) (l : List Expr) (p : Pos), (∀ v, S v → v.env.scope = sc) → 1 ≤ esLen es → chkL kL b.N sc es l = true → GE kL b S (.BoolOp .And l p) (evAnd Γ es)
  | .nil, _, _, _, _, _, h0, _ => absurd h0 (by decide)
  | .cons e es, S, sc, [], p, hs, _, h => by cases h
  | .cons e es, S, sc, x :: r, p, hs, _, h => by
    obtain ⟨h1, h2⟩ := and2 h
    obtain ⟨h2, h3⟩ := and2 h2
    have ge := sE G e S sc x hs h2
    cases es with
    | nil =>
      cases r with
      | nil => exact ge_and1 ge
      | cons _ _ => cases h3
    | cons e' es' =>
      cases r with
      | nil => cases h3
      | cons y r' => exact ge_and2 ge (sAnd G (.cons e' es') S sc (y :: r') p hs (Nat.succ_le_succ (Nat.zero_le _)) h3)
theorem sOr (G : GOk kL Γ n b) : ∀ (es : Es) (S : Vr → Prop) (sc : Scope) (l : List Expr) (p : Pos), (∀ v, S v → v.env.scope = sc) → 1 ≤ esLen es → chkL kL b.N sc es l = true → GE kL b S (.BoolOp .Or l p) (evOr Γ es)
  | .nil, _, _, _, _, _, h0, _ => absurd h0 (by decide)
  | .cons e es, S, sc, [], p, hs, _, h => by cases h
  | .cons e es, S, sc, x :: r, p, hs, _, h => by
    obtain ⟨h1, h2⟩ := and2 h
    obtain ⟨h2, h3⟩ := and2 h2
    have ge := sE G e S sc x hs h2
    cases es with
    | nil =>
      cases r with
      | nil => exact ge_or1 ge
      | cons _ _ => cases h3
    | cons e' es' =>
      cases r with
      | nil => cases h3
      | cons y r' => exact ge_or2 ge (sOr G (.cons e' es') S sc (y :: r') p hs (Nat.succ_le_succ (Nat.zero_le _)) h3)
theorem sAndT (G : GOk kL Γ n b) : ∀ (es : Es) (S : Vr → Prop) (sc : Scope) (l : List Expr) (p : Pos), (∀ v, S v → v.env.scope = sc) → 1 ≤ esLen es → tstL es l = true → chkL kL b.N sc es l = true → GW kL b S (.BoolOp .And l p) (evAnd Γ es)
  | .nil, _, _, _, _, _, h0, _, _ => absurd h0 (by decide)
  | .cons e es, S, sc, [], p, hs, _, _, h => by cases h
  | .cons e es, S, sc, x :: r, p, hs, _, t, h => by
    obtain ⟨h1, h2⟩ := and2 h
    obtain ⟨h2, h3⟩ := and2 h2
    obtain ⟨t1, t2⟩ := and2 t
    have ge := sT G e S sc x hs t1 h2
    cases es with
    | nil =>
      cases r with
      | nil => exact gw_and1 ge
      | cons _ _ => cases h3
    | cons e' es' =>
      cases r with
      | nil => cases h3
      | cons y r' => exact gw_and2 ge (sAndT G (.cons e' es') S sc (y :: r') p hs (Nat.succ_le_succ (Nat.zero_le _)) t2 h3)
theorem sOrT (G : GOk kL Γ n b) : ∀ (es : Es) (S : Vr → Prop) (sc : Scope) (l : List Expr) (p : Pos), (∀ v, S v → v.env.scope = sc) → 1 ≤ esLen es → tstL es l = true → chkL kL b.N sc es l = true → GW kL b S (.BoolOp .Or l p) (evOr Γ es)
  | .nil, _, _, _, _, _, h0, _, _ => absurd h0 (by decide)
  | .cons e es, S, sc, [], p, hs, _, _, h => by cases h
  | .cons e es, S, sc, x :: r, p, hs, _, t, h => by
    obtain ⟨h1, h2⟩ := and2 h
    obtain ⟨h2, h3⟩ := and2 h2
    obtain ⟨t1, t2⟩ := and2 t
    have ge := sT G e S sc x hs t1 h2
    cases es with
    | nil =>
      cases r with
      | nil => exact gw_or1 ge
      | cons _ _ => cases h3
    | cons e' es' =>
      cases r with
      | nil => cases h3
      | cons y r' => exact gw_or2 ge (sOrT G (.cons e' es') S sc (y :: r') p hs (Nat.succ_le_succ (Nat.zero_le _)) t2 h3)
end
end
end Qv

namespace Qv
open PySem PySem.Spec PyProof.Rows L2
/-! ### the state of a def's body: owned lists beside what is frozen -/
def SlotT (K : PySem.W.Frag) (fo : Fo) (H0 F H : Hp) (o : Option (Option V)) : C → Prop
  | .val d => ∃ v, o = some (some v) ∧ Dv K F v d
  | .feed => ∃ f k, fo = some (f, k) ∧ o = some (some (.ref f))
  | .own ds => ∃ p xs, o = some (some (.ref p)) ∧ H p = some (.lst xs) ∧ F p = none ∧ H0 p = none ∧ DvAll K F xs ds
  | .emp => True
structure Mt (K : PySem.W.Frag) (fo : Fo) (F0 H0 F H : Hp) (σ : L2.St) (ρ : Rho) (s : Fd) : Prop where
  gr : Gr fo F0 H0 F H
  len : σ.length = ρ.length
  slot : ∀ (i : Nat) (c : C), ρ[i]? = some c → SlotT K fo H0 F H (σ[i]?) c
  dist : ∀ (i j : Nat) (ds es : List D) (p : Addr), i ≠ j → ρ[i]? = some (.own ds) → ρ[j]? = some (.own es) → σ[i]? = some (some (.ref p)) → σ[j]? ≠ some (some (.ref p))
  feed : FeedInv K fo F H s
def fz1 (fs : List Nat) (j : Nat) : C → C
  | .own ds => if fs.contains j then .val (.list ds) else .emp
  | c => c
def th1 (fs : List Nat) (j : Nat) : C → C
  | .own ds => if fs.contains j then .val (.list ds) else .own ds
  | c => c
theorem froz_get (fs : List Nat) : ∀ (ρ : Rho) (k i : Nat), (froz fs k ρ)[i]? = (ρ[i]?).map (fz1 fs (k + i))
  | [], k, i => by simp [froz]
  | c :: r, k, 0 => by cases c <;> rfl
  | c :: r, k, i + 1 => by
    have ih := froz_get fs r (k + 1) i
    have e : k + 1 + i = k + (i + 1) := by omega
    rw [e] at ih
    cases c <;> exact ih
theorem thaw_get (fs : List Nat) : ∀ (ρ : Rho) (k i : Nat), (thaw fs k ρ)[i]? = (ρ[i]?).map (th1 fs (k + i))
  | [], k, i => by simp [thaw]
  | c :: r, k, 0 => by cases c <;> rfl
  | c :: r, k, i + 1 => by
    have ih := thaw_get fs r (k + 1) i
    have e : k + 1 + i = k + (i + 1) := by omega
    rw [e] at ih
    cases c <;> exact ih
theorem froz_len (fs : List Nat) : ∀ (ρ : Rho) (k : Nat), (froz fs k ρ).length = ρ.length
  | [], _ => rfl
  | c :: r, k => by cases c <;> exact congrArg Nat.succ (froz_len fs r (k + 1))
theorem thaw_len (fs : List Nat) : ∀ (ρ : Rho) (k : Nat), (thaw fs k ρ).length = ρ.length
  | [], _ => rfl
  | c :: r, k => by cases c <;> exact congrArg Nat.succ (thaw_len fs r (k + 1))
/-- the owned lists that are looked at -/
def Fz (fs : List Nat) (σ : L2.St) (ρ : Rho) (a : Addr) : Prop := ∃ i ds, fs.contains i = true ∧ ρ[i]? = some (.own ds) ∧ σ[i]? = some (some (.ref a))
open Classical in
noncomputable def frz (F H : Hp) (fs : List Nat) (σ : L2.St) (ρ : Rho) : Hp := fun a => if Fz fs σ ρ a then H a else F a
theorem frz_in {F H : Hp} {fs : List Nat} {σ : L2.St} {ρ : Rho} {a : Addr} (h : Fz fs σ ρ a) : frz F H fs σ ρ a = H a := if_pos h
theorem frz_out {F H : Hp} {fs : List Nat} {σ : L2.St} {ρ : Rho} {a : Addr} (h : ¬ Fz fs σ ρ a) : frz F H fs σ ρ a = F a := if_neg h
section
variable {K : PySem.W.Frag} {fo : Fo} {F0 H0 F H : Hp} {σ : L2.St} {ρ : Rho} {s : Fd} {fs : List Nat}
theorem Mt.fz (m : Mt K fo F0 H0 F H σ ρ s) {a : Addr} (h : Fz fs σ ρ a) : F a = none ∧ H0 a = none ∧ ∃ xs, H a = some (.lst xs) := by
  obtain ⟨i, ds, _, h2, h3⟩ := h
  obtain ⟨p, xs, e1, e2, e3, e4, _⟩ := m.slot i _ h2
  rw [h3] at e1
  cases e1
  exact ⟨e3, e4, xs, e2⟩
theorem Mt.up (m : Mt K fo F0 H0 F H σ ρ s) : Same F (frz F H fs σ ρ) := fun a o e => by
  by_cases h : Fz fs σ ρ a
  · rw [(m.fz h).1] at e
    cases e
  · rw [frz_out h]
    exact e
theorem Mt.down (m : Mt K fo F0 H0 F H σ ρ s) : Same (frz F H fs σ ρ) H := fun a o e => by
  by_cases h : Fz fs σ ρ a
  · rw [frz_in h] at e
    exact e
  · rw [frz_out h] at e
    exact m.gr.sub a o e
theorem Mt.notFd (m : Mt K fo F0 H0 F H σ ρ s) {f : Addr} {o : HO} (hf : H f = some o) (ho : ∀ xs, o ≠ .lst xs) : frz F H fs σ ρ f = F f := frz_out fun h => by
  obtain ⟨_, _, xs, e⟩ := m.fz h
  rw [e] at hf
  cases hf
  exact ho xs rfl
theorem Mt.mx (m : Mt K fo F0 H0 F H σ ρ s) (fs : List Nat) : Mx K fo (frz F H fs σ ρ) H σ (froz fs 0 ρ) s := by
  refine ⟨m.down, m.len.trans (froz_len fs ρ 0).symm, fun i c e => ?_, ?_⟩
  · rw [froz_get, Nat.zero_add] at e
    obtain ⟨c0, e0, rfl⟩ := Option.map_eq_some_iff.mp e
    have h := m.slot i c0 e0
    cases c0 with
    | val d =>
      obtain ⟨v, h1, h2⟩ := h
      exact ⟨v, h1, dv_up m.up _ _ h2⟩
    | feed => exact h
    | emp => trivial
    | own ds =>
      obtain ⟨p, xs, h1, h2, h3, h4, h5⟩ := h
      show SlotX K fo _ _ (if fs.contains i then _ else _)
      cases hc : fs.contains i with
      | false => trivial
      | true => exact ⟨.ref p, h1, .lst ((frz_in ⟨i, ds, hc, e0, h1⟩).trans h2) (dvs_up m.up _ _ h5)⟩
  · cases fo with
    | none => trivial
    | some w =>
      obtain ⟨f, kL⟩ := w
      obtain ⟨n, c, hf, hc⟩ := m.feed
      exact ⟨by rw [m.notFd hf (fun _ z => by cases z)]; exact n, c, hf, m.up _ _ hc⟩
/-- what stands behind a reckoning -/
theorem Mt.grK (m : Mt K fo F0 H0 F H σ ρ s) {F2 H2 : Hp} (g : Gr fo (frz F H fs σ ρ) H F2 H2) :
    (∀ a o, H0 a = some o → F0 a = none → (∀ k, fo ≠ some (a, k)) → H2 a = some o ∧ F a = none ∧ F2 a = none) ∧
    ∀ f k c kvs, fo = some (f, k) → F0 f = none → H0 f = some (.dK ((.inr "cells", .ref c) :: kvs)) → F f = none ∧ F2 f = none ∧ ∃ kvs', H2 f = some (.dK ((.inr "cells", .ref c) :: kvs')) := by
  refine ⟨fun a o h1 h2 h3 => ?_, fun f k c kvs e h1 h2 => ?_⟩
  · obtain ⟨k1, k2⟩ := m.gr.keep a o h1 h2 h3
    have hz : ¬ Fz fs σ ρ a := fun z => by
      rw [(m.fz z).2.1] at h1
      cases h1
    obtain ⟨k3, k4⟩ := g.keep a o k1 (by rw [frz_out hz]; exact k2) h3
    exact ⟨k3, k2, k4⟩
  · obtain ⟨k1, kvs1, k2⟩ := m.gr.fd f k c kvs e h1 h2
    obtain ⟨k3, k4⟩ := g.fd f k c kvs1 e (by rw [m.notFd k2 (fun _ z => by cases z)]; exact k1) k2
    exact ⟨k1, k3, k4⟩
theorem Mt.ownK (m : Mt K fo F0 H0 F H σ ρ s) {F2 H2 : Hp} (g : Gr fo (frz F H fs σ ρ) H F2 H2) {i : Nat} {ds : List D} (hi : ρ[i]? = some (.own ds)) (hn : fs.contains i = false) :
    ∃ p xs, σ[i]? = some (some (.ref p)) ∧ H2 p = some (.lst xs) ∧ F p = none ∧ F2 p = none ∧ H0 p = none ∧ DvAll K F xs ds := by
  obtain ⟨p, xs, h1, h2, h3, h4, h5⟩ := m.slot i _ hi
  have hz : ¬ Fz fs σ ρ p := by
    rintro ⟨j, es, k1, k2, k3⟩
    have hij : i ≠ j := fun z => by
      rw [z, k1] at hn
      cases hn
    exact m.dist i j ds es p hij hi k2 h1 k3
  have hk : ∀ k, fo ≠ some (p, k) := fun k z => by
    subst z
    obtain ⟨_, c, hc, _⟩ := m.feed
    rw [h2] at hc
    cases hc
  obtain ⟨k3, k4⟩ := g.keep p _ h2 (by rw [frz_out hz]; exact h3) hk
  exact ⟨p, xs, h1, k3, h3, k4, h4, h5⟩
theorem Mt.thaw (m : Mt K fo F0 H0 F H σ ρ s) {F2 H2 : Hp} {s' : Fd} (g : Gr fo (frz F H fs σ ρ) H F2 H2) (f : FeedInv K fo F2 H2 s') : Mt K fo F0 H0 F2 H2 σ (thaw fs 0 ρ) s' := by
  obtain ⟨k1, k2⟩ := m.grK g
  refine ⟨⟨(m.gr.up.trans m.up).trans g.up, g.sub, fun a o h1 h2 h3 => ?_, fun f k c kvs e h1 h2 => ?_⟩, m.len.trans (thaw_len fs ρ 0).symm, fun i c e => ?_, fun i j ds es p hij hi hj => ?_, f⟩
  · obtain ⟨z1, _, z2⟩ := k1 a o h1 h2 h3
    exact ⟨z1, z2⟩
  · obtain ⟨_, z1, z2⟩ := k2 f k c kvs e h1 h2
    exact ⟨z1, z2⟩
  · rw [thaw_get, Nat.zero_add] at e
    obtain ⟨c0, e0, rfl⟩ := Option.map_eq_some_iff.mp e
    have h := m.slot i c0 e0
    cases c0 with
    | val d =>
      obtain ⟨v, h1, h2⟩ := h
      exact ⟨v, h1, dv_up (m.up.trans g.up) _ _ h2⟩
    | feed => exact h
    | emp => trivial
    | own ds =>
      show SlotT K fo H0 F2 H2 _ (if fs.contains i then _ else _)
      cases hc : fs.contains i with
      | false =>
        obtain ⟨p, xs, h1, h2, h3, h4, h5, h6⟩ := m.ownK g e0 hc
        exact ⟨p, xs, h1, h2, h4, h5, dvs_up (m.up.trans g.up) _ _ h6⟩
      | true =>
        obtain ⟨p, xs, h1, h2, h3, h4, h5⟩ := h
        exact ⟨.ref p, h1, .lst (g.up _ _ ((frz_in ⟨i, ds, hc, e0, h1⟩).trans h2)) (dvs_up (m.up.trans g.up) _ _ h5)⟩
  · have own_of : ∀ (i : Nat) (ds : List D), (Qv.thaw fs 0 ρ)[i]? = some (.own ds) → ρ[i]? = some (.own ds) := fun i ds e => by
      rw [thaw_get, Nat.zero_add] at e
      obtain ⟨c0, e0, e1⟩ := Option.map_eq_some_iff.mp e
      cases c0 with
      | own d0 =>
        have e2 : (if fs.contains i then C.val (.list d0) else C.own d0) = .own ds := e1
        cases hc : fs.contains i with
        | true => rw [hc] at e2; cases e2
        | false =>
          rw [hc] at e2
          have e3 : C.own d0 = .own ds := e2
          rw [e0, e3]
      | val _ => cases e1
      | feed => cases e1
      | emp => cases e1
    exact m.dist i j ds es p hij (own_of i ds hi) (own_of j es hj)
theorem Mt.stay (m : Mt K fo F0 H0 F H σ ρ s) {F2 H2 : Hp} {s' : Fd} (g : Gr fo (frz F H fs σ ρ) H F2 H2) (f : FeedInv K fo F2 H2 s') : Mt K fo F0 H0 F H2 σ ρ s' := by
  obtain ⟨k1, k2⟩ := m.grK g
  have sb : Same F H2 := (m.up.trans g.up).trans g.sub
  refine ⟨⟨m.gr.up, sb, fun a o h1 h2 h3 => ?_, fun f k c kvs e h1 h2 => ?_⟩, m.len, fun i c e => ?_, m.dist, ?_⟩
  · obtain ⟨z1, z2, _⟩ := k1 a o h1 h2 h3
    exact ⟨z1, z2⟩
  · obtain ⟨z1, _, z2⟩ := k2 f k c kvs e h1 h2
    exact ⟨z1, z2⟩
  · have h := m.slot i c e
    cases c with
    | val d => exact h
    | feed => exact h
    | emp => trivial
    | own ds =>
      cases hc : fs.contains i with
      | false =>
        obtain ⟨p, xs, h1, h2, h3, h4, h5, h6⟩ := m.ownK g e hc
        exact ⟨p, xs, h1, h2, h3, h5, h6⟩
      | true =>
        obtain ⟨p, xs, h1, h2, h3, h4, h5⟩ := h
        exact ⟨p, xs, h1, g.sub _ _ (g.up _ _ ((frz_in ⟨i, ds, hc, e, h1⟩).trans h2)), h3, h4, h5⟩
  · cases fo with
    | none => trivial
    | some w =>
      obtain ⟨f0, kL⟩ := w
      obtain ⟨n, c, hf, hc⟩ := m.feed
      obtain ⟨n2, c2, hf2, hc2⟩ := f
      obtain ⟨_, kvs', z⟩ := g.fd f0 kL c _ rfl (by rw [m.notFd hf (fun _ z => by cases z)]; exact n) hf
      rw [hf2] at z
      have ec : c2 = c := by
        have z1 := Option.some.inj z
        injection z1 with z2
        have z3 := (List.cons.inj z2).1
        have z4 := congrArg Prod.snd z3
        exact V.ref.inj z4
      subst ec
      refine ⟨n, c2, hf2, ?_⟩
      have := g.up _ _ (m.up _ _ hc)
      rw [hc2] at this
      rw [hc]
      exact this.symm
theorem Mt.behind (m : Mt K fo F0 H0 F H σ ρ s) {F2 H2 : Hp} {s' : Fd} {v : V} {d : D} (g : Gr fo (frz F H fs σ ρ) H F2 H2) (f : FeedInv K fo F2 H2 s') (hd : Dv K F2 v d) :
    ∃ F', Mt K fo F0 H0 F' H2 σ (behind fs d ρ) s' ∧ Dv K F' v d := by
  unfold Qv.behind
  cases hf : flat d with
  | false => exact ⟨F2, m.thaw g f, hd⟩
  | true =>
    refine ⟨F, m.stay g f, ?_⟩
    cases hd with
    | non => exact .non
    | bl b => exact .bl b
    | int i => exact .int i
    | str x => exact .str x
    | lst _ _ => cases hf
    | tup _ _ => cases hf
/-! ### slots that are set -/
theorem Mt.set (m : Mt K fo F0 H0 F H σ ρ s) {v : V} {d : D} (h : Dv K F v d) (i : Nat) : Mt K fo F0 H0 F H (σ.set i (some v)) (ρ.set i (.val d)) s := by
  refine ⟨m.gr, by rw [List.length_set, List.length_set]; exact m.len, fun j c e => ?_, fun j k ds es p hjk hj hk => ?_, m.feed⟩
  · by_cases hj : i = j
    · subst hj
      have hi : i < ρ.length := by
        have := (List.getElem?_eq_some_iff.mp e).1
        rwa [List.length_set] at this
      rw [List.getElem?_set_self hi] at e
      cases e
      exact ⟨v, List.getElem?_set_self (by rw [m.len]; exact hi), h⟩
    · rw [List.getElem?_set_ne hj] at e ⊢
      exact m.slot j c e
  · have back : ∀ (j : Nat) (ds : List D), (ρ.set i (.val d))[j]? = some (.own ds) → i ≠ j ∧ ρ[j]? = some (.own ds) := fun j ds e => by
      by_cases hj : i = j
      · subst hj
        have hi : i < ρ.length := by
          have := (List.getElem?_eq_some_iff.mp e).1
          rwa [List.length_set] at this
        rw [List.getElem?_set_self hi] at e
        cases e
      · rw [List.getElem?_set_ne hj] at e
        exact ⟨hj, e⟩
    obtain ⟨n1, e1⟩ := back j ds hj
    obtain ⟨n2, e2⟩ := back k es hk
    rw [List.getElem?_set_ne n1, List.getElem?_set_ne n2]
    exact m.dist j k ds es p hjk e1 e2
theorem Mt.setAll : ∀ (is : List Nat) (vs : List V) (ds : List D) (σ : L2.St) (ρ ρ' : Rho), Mt K fo F0 H0 F H σ ρ s → DvAll K F vs ds → Qv.setAll is ds ρ = some ρ' → Mt K fo F0 H0 F H (setV is vs σ) ρ' s
  | [], _, _, σ, ρ, ρ', m, h, e => by
    cases h with
    | nil =>
      cases e
      exact m
    | cons _ _ => cases e
  | i :: is, _, _, σ, ρ, ρ', m, h, e => by
    cases h with
    | nil => cases e
    | cons h1 h2 => exact Mt.setAll is _ _ _ _ ρ' (m.set h1 i) h2 e
theorem Mt.new (m : Mt K fo F0 H0 F H σ ρ s) {p : Addr} {xs : List V} {ds : List D} (h1 : H p = some (.lst xs)) (h2 : F p = none) (h3 : H0 p = none) (h4 : DvAll K F xs ds)
    (hn : ∀ (j : Nat) (es : List D), ρ[j]? = some (.own es) → σ[j]? ≠ some (some (.ref p))) (i : Nat) : Mt K fo F0 H0 F H (σ.set i (some (.ref p))) (ρ.set i (.own ds)) s := by
  have at_ : ∀ (j : Nat) (c : C), (ρ.set i (.own ds))[j]? = some c → (i = j ∧ c = .own ds ∧ (σ.set i (some (.ref p)))[j]? = some (some (.ref p))) ∨ (i ≠ j ∧ ρ[j]? = some c ∧ (σ.set i (some (.ref p)))[j]? = σ[j]?) := fun j c e => by
    by_cases hj : i = j
    · subst hj
      have hi : i < ρ.length := by
        have := (List.getElem?_eq_some_iff.mp e).1
        rwa [List.length_set] at this
      rw [List.getElem?_set_self hi] at e
      cases e
      exact .inl ⟨rfl, rfl, List.getElem?_set_self (by rw [m.len]; exact hi)⟩
    · rw [List.getElem?_set_ne hj] at e
      exact .inr ⟨hj, e, List.getElem?_set_ne hj⟩
  refine ⟨m.gr, by rw [List.length_set, List.length_set]; exact m.len, fun j c e => ?_, fun j k d1 d2 q hjk hj hk => ?_, m.feed⟩
  · rcases at_ j c e with ⟨_, rfl, e2⟩ | ⟨_, e1, e2⟩
    · rw [e2]
      exact ⟨p, xs, rfl, h1, h2, h3, h4⟩
    · rw [e2]
      exact m.slot j c e1
  · rcases at_ j _ hj with ⟨z1, _, e2⟩ | ⟨_, e1, e2⟩
    · rcases at_ k _ hk with ⟨z2, _, _⟩ | ⟨_, e3, e4⟩
      · exact absurd (z1.symm.trans z2) hjk
      · rw [e2, e4]
        intro hq
        cases hq
        exact hn k d2 e3
    · rcases at_ k _ hk with ⟨_, _, e4⟩ | ⟨_, e3, e4⟩
      · rw [e2, e4]
        intro hq hp
        cases hp
        exact hn j d1 e1 hq
      · rw [e2, e4]
        exact m.dist j k d1 d2 q hjk e1 e3
/-- an owned list is rewritten -/
theorem Mt.put (m : Mt K fo F0 H0 F H σ ρ s) {i : Nat} {ds es : List D} {p : Addr} {ys : List V} (hi : ρ[i]? = some (.own ds)) (hp : σ[i]? = some (some (.ref p))) (hy : DvAll K F ys es) :
    Mt K fo F0 H0 F (upd H p (.lst ys)) σ (ρ.set i (.own es)) s := by
  obtain ⟨p', xs, e1, h2, h3, h4, h5⟩ := m.slot i _ hi
  rw [hp] at e1
  cases e1
  have il : i < ρ.length := (List.getElem?_eq_some_iff.mp hi).1
  have at_ : ∀ (j : Nat) (c : C), (ρ.set i (.own es))[j]? = some c → (i = j ∧ c = .own es) ∨ (i ≠ j ∧ ρ[j]? = some c) := fun j c e => by
    by_cases hj : i = j
    · subst hj
      rw [List.getElem?_set_self il] at e
      cases e
      exact .inl ⟨rfl, rfl⟩
    · rw [List.getElem?_set_ne hj] at e
      exact .inr ⟨hj, e⟩
  have neF : ∀ {a : Addr} {o : HO}, F a = some o → a ≠ p := fun {a o} z => ne_of_none z h3
  refine ⟨⟨m.gr.up, fun a o e => ?_, fun a o k1 k2 k3 => ?_, fun f k c kvs e k1 k2 => ?_⟩, by rw [List.length_set]; exact m.len, fun j c e => ?_, fun j k d1 d2 q hjk hj hk => ?_, ?_⟩
  · rw [upd_ne (neF e)]
    exact m.gr.sub a o e
  · rw [upd_ne (ne_of_none k1 h4)]
    exact m.gr.keep a o k1 k2 k3
  · rw [upd_ne (ne_of_none k2 h4)]
    exact m.gr.fd f k c kvs e k1 k2
  · rcases at_ j c e with ⟨z, rfl⟩ | ⟨hj, e1⟩
    · subst z
      exact ⟨p, ys, hp, upd_same, h3, h4, hy⟩
    · have h := m.slot j c e1
      cases c with
      | val d => exact h
      | feed => exact h
      | emp => trivial
      | own d1 =>
        obtain ⟨q, zs, k1, k2, k3, k4, k5⟩ := h
        have hq : q ≠ p := fun z => by
          subst z
          exact m.dist i j ds d1 q hj hi e1 hp k1
        exact ⟨q, zs, k1, by rw [upd_ne hq]; exact k2, k3, k4, k5⟩
  · have own_of : ∀ (j : Nat) (d1 : List D), (ρ.set i (.own es))[j]? = some (.own d1) → ∃ d2, ρ[j]? = some (.own d2) := fun j d1 e => by
      rcases at_ j _ e with ⟨z, _⟩ | ⟨_, e1⟩
      · subst z
        exact ⟨ds, hi⟩
      · exact ⟨d1, e1⟩
    obtain ⟨a1, z1⟩ := own_of j d1 hj
    obtain ⟨a2, z2⟩ := own_of k d2 hk
    exact m.dist j k a1 a2 q hjk z1 z2
  · cases fo with
    | none => trivial
    | some w =>
      obtain ⟨f0, kL⟩ := w
      obtain ⟨n, c, hf, hc⟩ := m.feed
      have hne : f0 ≠ p := fun z => by
        rw [z, h2] at hf
        cases hf
      exact ⟨n, c, by rw [upd_ne hne]; exact hf, hc⟩
/-- the feed is rewritten -/
theorem Mt.fput (m : Mt K fo F0 H0 F H σ ρ s) {f : Addr} {kL : Str} {c : Addr} {kvs kvs' : List (Key × V)} {s' : Fd} (hf : fo = some (f, kL)) (h1 : H f = some (.dK ((.inr "cells", .ref c) :: kvs))) (hn : FeedAt K kL F (upd H f (.dK ((.inr "cells", .ref c) :: kvs'))) f s') :
    Mt K fo F0 H0 F (upd H f (.dK ((.inr "cells", .ref c) :: kvs'))) σ ρ s' := by
  subst hf
  obtain ⟨n, c0, hc, hl⟩ := m.feed
  have neF : ∀ {a : Addr} {o : HO}, F a = some o → a ≠ f := fun {a o} z => ne_of_none z n
  refine ⟨⟨m.gr.up, fun a o e => ?_, fun a o k1 k2 k3 => ?_, fun f' k c' kv e k1 k2 => ?_⟩, m.len, fun j c e => ?_, m.dist, hn⟩
  · rw [upd_ne (neF e)]
    exact m.gr.sub a o e
  · have hne : a ≠ f := fun z => k3 kL (by rw [z])
    rw [upd_ne hne]
    exact m.gr.keep a o k1 k2 k3
  · cases e
    obtain ⟨k3, kv', k4⟩ := m.gr.fd f kL c' kv rfl k1 k2
    refine ⟨k3, kvs', ?_⟩
    rw [upd_same]
    rw [h1] at k4
    have z1 := Option.some.inj k4
    injection z1 with z2
    have z3 := (List.cons.inj z2).1
    rw [z3]
  · have h := m.slot j c e
    cases c with
    | val d => exact h
    | feed => exact h
    | emp => trivial
    | own d1 =>
      obtain ⟨q, zs, k1, k2, k3, k4, k5⟩ := h
      have hq : q ≠ f := fun z => by
        rw [z, h1] at k2
        cases k2
      exact ⟨q, zs, k1, by rw [upd_ne hq]; exact k2, k3, k4, k5⟩
end
end Qv

namespace Qv
open PySem PySem.Spec PyProof.Rows L2
/-! ### what a statement comes to -/
def Lands (K : PySem.W.Frag) (fo : Fo) (F0 H0 F : Hp) (D : Ends) (s' : Fd) : Fl → Prop
  | .nx ρ' => ∀ σ' F' H', Same F F' → Mt K fo F0 H0 F' H' σ' ρ' s' → D.nx σ' H'
  | .rt d => ∀ v F' H', Gr fo F0 H0 F' H' → FeedInv K fo F' H' s' → Dv K F' v d → D.rt v H'
  | .bk ρ' => ∀ σ' F' H', Same F F' → Mt K fo F0 H0 F' H' σ' ρ' s' → D.bk σ' H'
  | .ct ρ' => ∀ σ' F' H', Same F F' → Mt K fo F0 H0 F' H' σ' ρ' s' → D.ct σ' H'
def EvS (K : PySem.W.Frag) (fo : Fo) (F0 H0 : Hp) (t : TS) (σ : L2.St) (ρ : Rho) (m : M Fl) : Prop := ∀ F H s fl s', Mt K fo F0 H0 F H σ ρ s → m s = some (fl, s') → ∀ D : Ends, Lands K fo F0 H0 F D s' fl → t D σ H
theorem thaw_own {fs : List Nat} {ρ : Rho} {i : Nat} {ds : List D} (e : (thaw fs 0 ρ)[i]? = some (.own ds)) : ρ[i]? = some (.own ds) := by
  rw [thaw_get, Nat.zero_add] at e
  obtain ⟨c0, e0, e1⟩ := Option.map_eq_some_iff.mp e
  cases c0 with
  | own d0 =>
    have e2 : (if fs.contains i then C.val (.list d0) else C.own d0) = .own ds := e1
    cases hc : fs.contains i with
    | true => rw [hc] at e2; cases e2
    | false =>
      rw [hc] at e2
      have e3 : C.own d0 = .own ds := e2
      rw [e0, e3]
  | val _ => cases e1
  | feed => cases e1
  | emp => cases e1
theorem behind_own {fs : List Nat} {ρ : Rho} {d : D} {i : Nat} {ds : List D} (e : (behind fs d ρ)[i]? = some (.own ds)) : ρ[i]? = some (.own ds) := by
  unfold behind at e
  cases hf : flat d with
  | true =>
    rw [hf] at e
    exact e
  | false =>
    rw [hf] at e
    exact thaw_own e
theorem thaw_nil : ∀ (k : Nat) (ρ : Rho), thaw [] k ρ = ρ
  | _, [] => rfl
  | k, c :: r => by
    cases c <;> exact congrArg (List.cons _) (thaw_nil (k + 1) r)
section
variable {K : PySem.W.Frag} {fo : Fo} {F0 H0 F H : Hp} {σ : L2.St} {ρ : Rho} {s : Fd} {fs : List Nat} {Γ : Gam} {N : Nat}
theorem Mt.step (m : Mt K fo F0 H0 F H σ ρ s) {F2 H2 : Hp} (g : Gr none F H F2 H2) : Mt K fo F0 H0 F2 H2 σ ρ s := by
  have e : frz F H [] σ ρ = F := funext fun a => frz_out fun ⟨_, _, h, _⟩ => by cases h
  have := m.thaw (fs := []) (F2 := F2) (H2 := H2) (s' := s) (by rw [e]; exact g.any) (m.feed.gr g)
  rwa [thaw_nil] at this
theorem Mt.own (m : Mt K fo F0 H0 F H σ ρ s) {i : Nat} {ds : List D} (h : ρ[i]? = some (.own ds)) : ∃ p xs, σ[i]? = some (some (.ref p)) ∧ H p = some (.lst xs) ∧ DvAll K F xs ds := by
  obtain ⟨p, xs, h1, h2, _, _, h5⟩ := m.slot i _ h
  exact ⟨p, xs, h1, h2, h5⟩
theorem mapnx {o : Option Rho} {s s' : Fd} {fl : Fl} (h : ofO (o.map Fl.nx) s = some (fl, s')) : ∃ ρ', o = some ρ' ∧ fl = .nx ρ' ∧ s' = s := by
  obtain ⟨h1, h2⟩ := ofO_some h
  obtain ⟨ρ', h3, h4⟩ := Option.map_eq_some_iff.mp h1
  exact ⟨ρ', h3, h4.symm, h2⟩
/-! #### values into names -/
theorem es_asg {te : TE} {t : Tg} {m : M D} (he : EvD K fo te σ (froz fs 0 ρ) m) : EvS K fo F0 H0 (tAsg te (gOf K t)) σ ρ (mb m fun d => ofO ((bindT t d (behind fs d ρ)).map .nx)) := fun F H s fl s' mt h D L => by
  obtain ⟨d, s1, e1, h1⟩ := mb_some h
  obtain ⟨ρ', e2, rfl, rfl⟩ := mapnx h1
  refine he _ H s d s' (mt.mx fs) e1 _ fun v F1 H1 g1 f1 d1 => ?_
  have key : ∃ F', Same F F' ∧ Mt K fo F0 H0 F' H1 σ (behind fs d ρ) s' ∧ Dv K F' v d := by
    unfold behind
    cases hf : flat d with
    | false => exact ⟨F1, mt.up.trans g1.up, mt.thaw g1 f1, d1⟩
    | true =>
      refine ⟨F, Same.refl F, mt.stay g1 f1, ?_⟩
      cases d1 with
      | non => exact .non
      | bl b => exact .bl b
      | int i => exact .int i
      | str x => exact .str x
      | lst _ _ => cases hf
      | tup _ _ => cases hf
  obtain ⟨F', sm, m1, d2⟩ := key
  obtain ⟨vs, ds, k1, k2, k3⟩ := tg_run m1.gr.sub d2 e2
  exact k3 σ _ (L _ F' H1 sm (Mt.setAll _ _ _ _ _ _ m1 k2 k1))
theorem Mt.fresh (mt : Mt K fo F0 H0 F H σ ρ s) {p : Addr} (hp : H p = none) : H0 p = none ∧ ∀ (j : Nat) (es : List D), ρ[j]? = some (.own es) → σ[j]? ≠ some (some (.ref p)) := by
  refine ⟨mt.gr.back mt.feed hp, fun j es hj e => ?_⟩
  obtain ⟨q, xs, h1, h2, _⟩ := mt.own hj
  rw [h1] at e
  cases e
  rw [hp] at h2
  cases h2
theorem es_new {te : TE} {i : Nat} {m : M D} (he : EvN K fo te σ (froz fs 0 ρ) m) : EvS K fo F0 H0 (tAsg te (gName i)) σ ρ (mb m fun d => match d with
    | .list ds => ret (.nx ((thaw fs 0 ρ).set i (.own ds)))
    | _ => bad) := fun F H s fl s' mt h D L => by
  obtain ⟨d, s1, e1, h1⟩ := mb_some h
  cases d with
  | list ds =>
    obtain ⟨rfl, rfl⟩ := ret_some h1
    refine he _ H s ds s' (mt.mx fs) e1 _ fun p xs F1 H1 g1 f1 hn hp fp dp => ?_
    obtain ⟨n0, n1⟩ := mt.fresh hn
    exact L _ F1 H1 (mt.up.trans g1.up) ((mt.thaw g1 f1).new hp fp n0 dp (fun j es hj => n1 j es (thaw_own hj)) i)
  | _ => cases h1
/-! #### several at once -/
def FrO (K : PySem.W.Frag) (Hs F H : Hp) (v : V) (d : D) : Bool → Prop
  | false => Dv K F v d
  | true => ∃ p xs ds, v = .ref p ∧ d = .list ds ∧ Hs p = none ∧ H p = some (.lst xs) ∧ F p = none ∧ DvAll K F xs ds
def OwnIn (p : Addr) : List V → List Bool → Prop
  | v :: vs, o :: os => (v = .ref p ∧ o = true) ∨ OwnIn p vs os
  | _, _ => False
inductive FrAll (K : PySem.W.Frag) (Hs F H : Hp) : List V → List D → List Bool → Prop
  | nil : FrAll K Hs F H [] [] []
  | cons {v : V} {vs : List V} {d : D} {ds : List D} {o : Bool} {os : List Bool} : FrO K Hs F H v d o → (o = true → ∀ p, v = .ref p → ¬ OwnIn p vs os) → FrAll K Hs F H vs ds os → FrAll K Hs F H (v :: vs) (d :: ds) (o :: os)
theorem FrAll.own {Hs : Hp} {p : Addr} : ∀ {vs : List V} {ds : List D} {os : List Bool}, FrAll K Hs F H vs ds os → OwnIn p vs os → Hs p = none ∧ ∃ xs, H p = some (.lst xs)
  | _, _, _, .nil, h => h.elim
  | _, _, _, .cons (o := o) h1 _ h2, h => by
    rcases h with ⟨rfl, rfl⟩ | h
    · obtain ⟨q, xs, ds, e1, _, e2, e3, _⟩ := h1
      cases e1
      exact ⟨e2, xs, e3⟩
    · exact FrAll.own h2 h
theorem FrO.gr {Hs F' H' : Hp} {v : V} {d : D} {o : Bool} (f : FeedInv K fo F H s) (g : Gr fo F H F' H') (h : FrO K Hs F H v d o) : FrO K Hs F' H' v d o := by
  cases o with
  | false => exact dv_up g.up _ _ h
  | true =>
    obtain ⟨p, xs, ds, e1, e2, e3, e4, e5, e6⟩ := h
    have hk : ∀ k, fo ≠ some (p, k) := fun k z => by
      subst z
      obtain ⟨_, c, hc, _⟩ := f
      rw [e4] at hc
      cases hc
    obtain ⟨k1, k2⟩ := g.keep p _ e4 e5 hk
    exact ⟨p, xs, ds, e1, e2, e3, k1, k2, dvs_up g.up _ _ e6⟩
theorem FrAll.gr {Hs F' H' : Hp} (f : FeedInv K fo F H s) (g : Gr fo F H F' H') : ∀ {vs : List V} {ds : List D} {os : List Bool}, FrAll K Hs F H vs ds os → FrAll K Hs F' H' vs ds os
  | _, _, _, .nil => .nil
  | _, _, _, .cons h1 h2 h3 => .cons (h1.gr f g) h2 (FrAll.gr f g h3)
theorem FrAll.len {Hs : Hp} : ∀ {vs : List V} {ds : List D} {os : List Bool}, FrAll K Hs F H vs ds os → vs.length = ds.length
  | _, _, _, .nil => rfl
  | _, _, _, .cons _ _ h => congrArg Nat.succ (FrAll.len h)
/-- seen from an earlier heap -/
theorem FrAll.early {Hs Hr : Hp} (hb : ∀ p, Hs p = none → Hr p = none) : ∀ {vs : List V} {ds : List D} {os : List Bool}, FrAll K Hs F H vs ds os → FrAll K Hr F H vs ds os
  | _, _, _, .nil => .nil
  | _, _, _, .cons (o := o) h1 h2 h3 => .cons (by
    cases o with
    | false => exact h1
    | true =>
      obtain ⟨p, xs, ds, e1, e2, e3, e4⟩ := h1
      exact ⟨p, xs, ds, e1, e2, hb _ e3, e4⟩) h2 (FrAll.early hb h3)
def EvP (K : PySem.W.Frag) (fo : Fo) (ta : TA) (σ : L2.St) (ρ : Rho) (os : List Bool) (m : M (List D)) : Prop := ∀ F H s ds s', Mx K fo F H σ ρ s → m s = some (ds, s') → ∀ Q : List V → Hp → Prop,
  (∀ vs F' H', Gr fo F H F' H' → FeedInv K fo F' H' s' → FrAll K H F' H' vs ds os → Q vs H') → ta σ H Q
theorem ep_nil : EvP K fo tNil σ ρ [] (evL Γ .nil ρ) := fun F H s ds s' m h Q q => by
  unfold evL at h
  obtain ⟨rfl, rfl⟩ := ret_some h
  exact q [] F H (Gr.refl m.sub) m.feed .nil
theorem ep_val {e : E} {es : Es} {te : TE} {ta : TA} {os : List Bool} (h1 : EvD K fo te σ ρ (evE Γ e ρ)) (h2 : EvP K fo ta σ ρ os (evL Γ es ρ)) : EvP K fo (tCons te ta) σ ρ (false :: os) (evL Γ (.cons e es) ρ) := fun F H s ds s' m h Q q => by
  unfold evL at h
  obtain ⟨a, s1, e1, h3⟩ := mb_some h
  obtain ⟨as, s2, e2, h4⟩ := mb_some h3
  obtain ⟨rfl, rfl⟩ := ret_some h4
  refine h1 F H s a s1 m e1 _ fun x F1 H1 g1 f1 d1 => ?_
  refine h2 F1 H1 s1 as s' (m.gr g1 f1) e2 _ fun xs F2 H2 g2 f2 d2 => ?_
  exact q (x :: xs) F2 H2 (g1.trans g2) f2 (.cons (dv_up g2.up _ _ d1) (fun z => nomatch z) (d2.early fun p hp => g1.back f1 hp))
theorem ep_own {e : E} {es : Es} {te : TE} {ta : TA} {os : List Bool} (hl : ∀ s d s', evE Γ e ρ s = some (d, s') → ∃ ds, d = .list ds) (h1 : EvN K fo te σ ρ (evE Γ e ρ)) (h2 : EvP K fo ta σ ρ os (evL Γ es ρ)) : EvP K fo (tCons te ta) σ ρ (true :: os) (evL Γ (.cons e es) ρ) := fun F H s ds s' m h Q q => by
  unfold evL at h
  obtain ⟨a, s1, e1, h3⟩ := mb_some h
  obtain ⟨as, s2, e2, h4⟩ := mb_some h3
  obtain ⟨rfl, rfl⟩ := ret_some h4
  obtain ⟨bs, rfl⟩ := hl _ _ _ e1
  refine h1 F H s bs s1 m e1 _ fun p ys F1 H1 g1 f1 hn hp fp dp => ?_
  refine h2 F1 H1 s1 as s' (m.gr g1 f1) e2 _ fun xs F2 H2 g2 f2 d2 => ?_
  refine q (.ref p :: xs) F2 H2 (g1.trans g2) f2 (.cons (FrO.gr (o := true) f1 g2 ⟨p, ys, bs, rfl, rfl, hn, hp, fp, dp⟩) (fun _ p' e => ?_) (d2.early fun p hp => g1.back f1 hp))
  cases e
  intro z
  rw [(d2.own z).1] at hp
  cases hp
theorem Mt.setO {Hs : Hp} (h0 : ∀ p, Hs p = none → H0 p = none) : ∀ (is : List Nat) (os : List Bool) (vs : List V) (ds : List D) (σ : L2.St) (ρ ρ' : Rho), Mt K fo F0 H0 F H σ ρ s → FrAll K Hs F H vs ds os →
    (∀ p, OwnIn p vs os → ∀ (j : Nat) (es : List D), ρ[j]? = some (.own es) → σ[j]? ≠ some (some (.ref p))) → Qv.setO is os ds ρ = some ρ' → Mt K fo F0 H0 F H (setV is vs σ) ρ' s
  | [], _, _, _, σ, ρ, ρ', m, h, hn, e => by
    cases h with
    | nil =>
      cases e
      exact m
    | cons _ _ _ => cases e
  | i :: is, _, _, _, σ, ρ, ρ', m, h, hn, e => by
    cases h with
    | nil => cases e
    | @cons v vs d ds o os h1 h2 h3 =>
      cases o with
      | false =>
        refine Mt.setO h0 is os vs ds _ _ ρ' (m.set h1 i) h3 (fun p hp j es hj => ?_) e
        by_cases hi : i = j
        · subst hi
          have hl : i < ρ.length := by
            have := (List.getElem?_eq_some_iff.mp hj).1
            rwa [List.length_set] at this
          rw [List.getElem?_set_self hl] at hj
          cases hj
        · rw [List.getElem?_set_ne hi] at hj ⊢
          exact hn p (.inr hp) j es hj
      | true =>
        obtain ⟨p, xs, es, rfl, rfl, e1, e2, e3, e4⟩ := h1
        refine Mt.setO h0 is os vs ds _ _ ρ' (m.new e2 e3 (h0 p e1) e4 (hn p (.inl ⟨rfl, rfl⟩)) i) h3 (fun q hq j es' hj => ?_) e
        by_cases hi : i = j
        · subst hi
          by_cases hl : i < σ.length
          · rw [List.getElem?_set_self hl]
            intro z
            cases z
            exact h2 rfl _ rfl hq
          · rw [List.getElem?_eq_none (by rw [List.length_set]; omega)]
            intro z
            cases z
        · rw [List.getElem?_set_ne hi] at hj ⊢
          exact hn q (.inr hq) j es' hj
theorem setO_len : ∀ (is : List Nat) (os : List Bool) (ds : List D) (ρ ρ' : Rho), setO is os ds ρ = some ρ' → is.length = ds.length
  | [], [], [], _, _, _ => rfl
  | [], [], _ :: _, _, _, h => by cases h
  | [], _ :: _, _, _, _, h => by cases h
  | _ :: _, [], _, _, _, h => by cases h
  | _ :: _, o :: _, [], _, _, h => by cases o <;> cases h
  | i :: is, o :: os, d :: ds, ρ, ρ', h => by
    cases o with
    | false => exact congrArg Nat.succ (setO_len is os ds _ ρ' h)
    | true =>
      cases d with
      | list xs => exact congrArg Nat.succ (setO_len is os ds _ ρ' h)
      | _ => cases h
theorem es_parC {ta : TA} {is : List Nat} {os : List Bool} {es : Es} {t : TS} (post : Ends → L2.St → List V → Hp → Prop) (hq : ∀ D H, t D σ H = ta σ H (post D σ)) (ha : EvP K fo ta σ (froz fs 0 ρ) os (evL Γ es (froz fs 0 ρ)))
    (ht : ∀ (D : Ends) (vs : List V) (H1 : Hp), vs.length = is.length → vs.length ≤ sizeLine → D.nx (setV is vs σ) H1 → (∀ p o, H1 p = none → D.nx (setV is vs σ) (upd H1 p o)) → post D σ vs H1) (hl : esLen es ≤ 1000) :
    EvS K fo F0 H0 t σ ρ (evS Γ N (.par is es os fs) ρ) := fun F H s fl s' mt h D L => by
  have h : mb (evL Γ es (froz fs 0 ρ)) (fun ds => ofO ((setO is os ds (thaw fs 0 ρ)).map .nx)) s = some (fl, s') := by
    unfold evS at h
    exact h
  obtain ⟨ds, s1, e1, h1⟩ := mb_some h
  obtain ⟨ρ', e2, rfl, rfl⟩ := mapnx h1
  rw [hq]
  refine ha _ H s ds s' (mt.mx fs) e1 _ fun vs F1 H1 g1 f1 fr => ?_
  have hlen : vs.length = is.length := fr.len.trans (setO_len _ _ _ _ _ e2).symm
  have fin : ∀ F' H', Gr fo (frz F H fs σ ρ) H F' H' → FeedInv K fo F' H' s' → FrAll K H F' H' vs ds os → Same F F' → D.nx (setV is vs σ) H' := fun F' H' g f fr sm => by
    refine L _ F' H' sm (Mt.setO (fun p hp => (mt.fresh hp).1) is os vs ds σ _ ρ' (mt.thaw g f) fr (fun p hp j es hj => ?_) e2)
    exact (mt.fresh (fr.own hp).1).2 j es (thaw_own hj)
  refine ht D vs H1 hlen ?_ (fin F1 H1 g1 f1 fr (mt.up.trans g1.up)) fun p o hp => ?_
  · rw [fr.len, evL_len es _ _ _ e1]
    exact le_line (by omega)
  · have g2 : Gr none F1 H1 F1 (upd H1 p o) := Gr.free g1.sub hp
    exact fin F1 _ (g1.trans g2.any) (f1.gr g2) (fr.gr f1 g2.any) (mt.up.trans g1.up)
/-! #### the small ones -/
theorem es_exp {te : TE} {m : M D} (he : EvD K fo te σ (froz fs 0 ρ) m) : EvS K fo F0 H0 (tDrop te) σ ρ (mb m fun _ => ret (.nx ρ)) := fun F H s fl s' mt h D L => by
  obtain ⟨d, s1, e1, h1⟩ := mb_some h
  obtain ⟨rfl, rfl⟩ := ret_some h1
  exact he _ H s d s' (mt.mx fs) e1 _ fun v F1 H1 g1 f1 d1 => L σ F H1 (Same.refl F) (mt.stay g1 f1)
theorem es_ret {te : TE} {m : M D} (he : EvD K fo te σ (froz fs 0 ρ) m) : EvS K fo F0 H0 (tRet te) σ ρ (mb m fun d => ret (.rt d)) := fun F H s fl s' mt h D L => by
  obtain ⟨d, s1, e1, h1⟩ := mb_some h
  obtain ⟨rfl, rfl⟩ := ret_some h1
  exact he _ H s d s' (mt.mx fs) e1 _ fun v F1 H1 g1 f1 d1 => L v F1 H1 (mt.thaw g1 f1).gr f1 d1
theorem es_retN : EvS K fo F0 H0 tRetN σ ρ (ret (.rt .none)) := fun F H s fl s' mt h D L => by
  obtain ⟨rfl, rfl⟩ := ret_some h
  exact L .non F H mt.gr mt.feed .non
theorem es_next {fl0 : Fl} (hf : fl0 = .nx ρ) : EvS K fo F0 H0 tNext σ ρ (ret fl0) := fun F H s fl s' mt h D L => by
  obtain ⟨rfl, rfl⟩ := ret_some h
  subst hf
  exact L σ F H (Same.refl F) mt
theorem es_brk : EvS K fo F0 H0 tBreak σ ρ (ret (.bk ρ)) := fun F H s fl s' mt h D L => by
  obtain ⟨rfl, rfl⟩ := ret_some h
  exact L σ F H (Same.refl F) mt
theorem es_cnt : EvS K fo F0 H0 tCont σ ρ (ret (.ct ρ)) := fun F H s fl s' mt h D L => by
  obtain ⟨rfl, rfl⟩ := ret_some h
  exact L σ F H (Same.refl F) mt
theorem Lands.up {Fa Fb : Hp} {D : Ends} {s' : Fd} {fl : Fl} (h : Lands K fo F0 H0 Fa D s' fl) (e : Same Fa Fb) : Lands K fo F0 H0 Fb D s' fl := by
  cases fl with
  | nx ρ' => exact fun σ' F' H' z => h σ' F' H' (e.trans z)
  | rt d => exact h
  | bk ρ' => exact fun σ' F' H' z => h σ' F' H' (e.trans z)
  | ct ρ' => exact fun σ' F' H' z => h σ' F' H' (e.trans z)
theorem es_if {tc : TT} {t u : TS} {m : M D} {ma mb' : M Fl} (hc : EvT K fo tc σ (froz fs 0 ρ) m) (ha : EvS K fo F0 H0 t σ ρ ma) (hb : EvS K fo F0 H0 u σ ρ mb') :
    EvS K fo F0 H0 (tIfS tc t u) σ ρ (mb m fun x => match x with
      | .bool true => ma
      | .bool false => mb'
      | _ => bad) := fun F H s fl s' mt h D L => by
  obtain ⟨d, s1, e1, h1⟩ := mb_some h
  cases d with
  | bool k =>
    refine hc _ H s k s1 (mt.mx fs) e1 _ fun F1 H1 g1 f1 => ?_
    cases k with
    | true =>
      rw [if_pos rfl]
      exact ha F H1 s1 fl s' (mt.stay g1 f1) h1 D L
    | false =>
      rw [if_neg Bool.false_ne_true]
      exact hb F H1 s1 fl s' (mt.stay g1 f1) h1 D L
  | _ => cases h1
theorem es_nil : EvS K fo F0 H0 tNext σ ρ (evSs Γ N .nil ρ) := fun F H s fl s' mt h D L => by
  unfold evSs at h
  obtain ⟨rfl, rfl⟩ := ret_some h
  exact L σ F H (Same.refl F) mt
theorem es_cons {a : Sm} {r : Ss} {t u : TS} (ha : EvS K fo F0 H0 t σ ρ (evS Γ N a ρ)) (hr : ∀ σ ρ, EvS K fo F0 H0 u σ ρ (evSs Γ N r ρ)) : EvS K fo F0 H0 (tSeq t u) σ ρ (evSs Γ N (.cons a r) ρ) := fun F H s fl s' mt h D L => by
  unfold evSs at h
  obtain ⟨f1, s1, e1, h1⟩ := mb_some h
  refine ha F H s f1 s1 mt e1 _ ?_
  cases f1 with
  | nx ρ' => exact fun σ' F' H' sm m' => hr σ' ρ' F' H' s1 fl s' m' h1 D (L.up sm)
  | rt d =>
    obtain ⟨rfl, rfl⟩ := ret_some h1
    exact L
  | bk ρ' =>
    obtain ⟨rfl, rfl⟩ := ret_some h1
    exact L
  | ct ρ' =>
    obtain ⟨rfl, rfl⟩ := ret_some h1
    exact L
/-! #### loops -/
theorem forL_cons {f : D → Rho → M Fl} {x : D} {xs : List D} {ρ : Rho} {s s' : Fd} {fl : Fl} (h : forL f (x :: xs) ρ s = some (fl, s')) : ∃ r s1, f x ρ s = some (r, s1) ∧ (match r with
    | .nx ρ' => forL f xs ρ' s1 = some (fl, s')
    | .ct ρ' => forL f xs ρ' s1 = some (fl, s')
    | .bk ρ' => fl = .nx ρ' ∧ s' = s1
    | .rt d => fl = .rt d ∧ s' = s1) := by
  unfold forL at h
  obtain ⟨r, s1, e1, h1⟩ := mb_some h
  refine ⟨r, s1, e1, ?_⟩
  cases r with
  | nx ρ' => exact h1
  | ct ρ' => exact h1
  | bk ρ' =>
    obtain ⟨z1, z2⟩ := ret_some h1
    exact ⟨z1.symm, z2⟩
  | rt d =>
    obtain ⟨z1, z2⟩ := ret_some h1
    exact ⟨z1.symm, z2⟩
theorem es_for {wi : TI} {t : Tg} {tb : TS} {m : M (List D)} {f : Rho → M Fl} (hi : EvI K fo wi σ (froz fs 0 ρ) m) (hb : ∀ σ ρ, EvS K fo F0 H0 tb σ ρ (f ρ)) :
    EvS K fo F0 H0 (tFor wi (gOf K t) tb) σ ρ (mb m fun xs => forL (fun x ρ' => mb (ofO (bindT t x ρ')) fun ρ2 => f ρ2) xs (thaw fs 0 ρ)) := fun F H s fl s' mt h D L => by
  obtain ⟨xs, s1, e1, h1⟩ := mb_some h
  refine hi _ H s xs s1 (mt.mx fs) e1 _ fun J F1 H1 g1 f1 wk => ?_
  have up1 : Same F F1 := mt.up.trans g1.up
  refine ⟨fun i n σ H => n = xs.length - i ∧ i ≤ xs.length ∧ ∃ F' ρ' sI, Mt K fo F0 H0 F' H σ ρ' sI ∧ Same F1 F' ∧ forL (fun x ρ' => mb (ofO (bindT t x ρ')) fun ρ2 => f ρ2) (xs.drop i) ρ' sI = some (fl, s'),
    ⟨xs.length, by omega, Nat.zero_le _, F1, _, s1, mt.thaw g1 f1, Same.refl F1, h1⟩, ?_⟩
  rintro i n σ2 H2 ⟨rfl, hle, F2, ρ2, sI, m2, sm2, er⟩
  obtain ⟨w1, w2⟩ := wk F2 H2 sm2 m2.gr.sub
  by_cases hlt : i < xs.length
  · obtain ⟨go, yl⟩ := w1 i xs[i] (List.getElem?_eq_getElem hlt)
    rw [List.drop_eq_getElem_cons hlt] at er
    obtain ⟨r, sJ, t1, t2⟩ := forL_cons er
    refine .inr ⟨go, fun σ' H' => ∃ F' ρ' sK, Mt K fo F0 H0 F' H' σ' ρ' sK ∧ Same F1 F' ∧ forL (fun x ρ' => mb (ofO (bindT t x ρ')) fun ρ2 => f ρ2) (xs.drop (i + 1)) ρ' sK = some (fl, s'), ?_, ?_⟩
    · rintro σ' H' ⟨F', ρ', sK, z⟩
      exact ⟨xs.length - (i + 1), by omega, rfl, hlt, F', ρ', sK, z⟩
    · intro x H3 hy
      obtain ⟨F3, g3, dx⟩ := yl x H3 hy
      obtain ⟨ρ3, sK, b0, u1⟩ := mb_some t1
      obtain ⟨b1, rfl⟩ := ofO_some b0
      obtain ⟨vs, dl, c2, c3, c4⟩ := tg_run g3.sub dx b1
      have m3 := Mt.setAll _ _ _ _ _ _ (m2.step g3) c3 c2
      have sm3 : Same F1 F3 := sm2.trans g3.up
      refine c4 _ _ (hb _ ρ3 F3 H3 sK r sJ m3 u1 _ ?_)
      cases r with
      | nx ρ' => exact fun σ' F' H' z mm => ⟨F', ρ', sJ, mm, sm3.trans z, t2⟩
      | ct ρ' => exact fun σ' F' H' z mm => ⟨F', ρ', sJ, mm, sm3.trans z, t2⟩
      | bk ρ' =>
        obtain ⟨rfl, rfl⟩ := t2
        exact fun σ' F' H' z mm => L σ' F' H' ((up1.trans sm3).trans z) mm
      | rt d =>
        obtain ⟨rfl, rfl⟩ := t2
        exact L
  · have hi : i = xs.length := by omega
    subst hi
    rw [List.drop_length] at er
    obtain ⟨rfl, rfl⟩ := ret_some (show ret (Fl.nx ρ2) sI = some (fl, s') from er)
    exact .inl ⟨w2, L σ2 F2 H2 (up1.trans sm2) m2⟩
theorem es_while {tc : TT} {tb : TS} {c : Rho → M D} {f : Rho → M Fl} {n0 : Nat} (hc : ∀ σ ρ, EvT K fo tc σ ρ (c ρ)) (hb : ∀ σ ρ, EvS K fo F0 H0 tb σ ρ (f ρ)) :
    EvS K fo F0 H0 (tWhile tc tb) σ ρ (whlL (fun ρ => mb (c (froz fs 0 ρ)) fun x => ofO (asB x)) f n0 ρ) := fun F H s fl s' mt h D L => by
  refine ⟨fun n σ H => ∃ F' ρ' sI, Mt K fo F0 H0 F' H σ ρ' sI ∧ Same F F' ∧ whlL (fun ρ => mb (c (froz fs 0 ρ)) fun x => ofO (asB x)) f n ρ' sI = some (fl, s'), ⟨n0, F, ρ, s, mt, Same.refl F, h⟩, ?_⟩
  rintro n σ2 H2 ⟨F2, ρ2, sI, m2, sm2, er⟩
  cases n with
  | zero => cases er
  | succ n =>
    unfold whlL at er
    obtain ⟨k, s1, e1, h1⟩ := mb_some er
    obtain ⟨d, s2, e2, h2⟩ := mb_some e1
    obtain ⟨e3, rfl⟩ := ofO_some h2
    cases d with
    | bool w =>
      have ew : w = k := Option.some.inj e3
      subst ew
      refine hc σ2 _ _ H2 sI w s1 (m2.mx fs) e2 _ fun F3 H3 g3 f3 => ?_
      have m3 := m2.stay g3 f3
      cases w with
      | false =>
        rw [if_neg Bool.false_ne_true]
        obtain ⟨rfl, rfl⟩ := ret_some (show ret (Fl.nx ρ2) s1 = some (fl, s') from h1)
        exact L σ2 F2 H3 sm2 m3
      | true =>
        rw [if_pos rfl]
        obtain ⟨r, sJ, t1, t2⟩ := mb_some (show mb (f ρ2) _ s1 = some (fl, s') from h1)
        refine ⟨fun σ' H' => ∃ F' ρ' sI, Mt K fo F0 H0 F' H' σ' ρ' sI ∧ Same F F' ∧ whlL (fun ρ => mb (c (froz fs 0 ρ)) fun x => ofO (asB x)) f n ρ' sI = some (fl, s'), fun σ' H' z => ⟨n, Nat.lt_succ_self n, z⟩, ?_⟩
        refine hb σ2 ρ2 F2 H3 s1 r sJ m3 t1 _ ?_
        cases r with
        | nx ρ' => exact fun σ' F' H' z mm => ⟨F', ρ', sJ, mm, sm2.trans z, t2⟩
        | ct ρ' => exact fun σ' F' H' z mm => ⟨F', ρ', sJ, mm, sm2.trans z, t2⟩
        | bk ρ' =>
          obtain ⟨rfl, rfl⟩ := ret_some t2
          exact fun σ' F' H' z mm => L σ' F' H' (sm2.trans z) mm
        | rt d =>
          obtain ⟨rfl, rfl⟩ := ret_some t2
          exact L
    | _ => cases e3
end
end Qv

namespace Qv
open PySem PySem.Spec PyProof.Rows L2
section
variable {K : PySem.W.Frag} {fo : Fo} {F0 H0 F H : Hp} {σ : L2.St} {ρ : Rho} {s : Fd} {fs : List Nat} {Γ : Gam} {N : Nat}
theorem Mt.behindU (mt : Mt K fo F0 H0 F H σ ρ s) {F1 H1 : Hp} {s' : Fd} {v : V} {d : D} (g1 : Gr fo (frz F H fs σ ρ) H F1 H1) (f1 : FeedInv K fo F1 H1 s') (d1 : Dv K F1 v d) :
    ∃ F', Same F F' ∧ Mt K fo F0 H0 F' H1 σ (Qv.behind fs d ρ) s' ∧ Dv K F' v d := by
  unfold Qv.behind
  cases hf : flat d with
  | false => exact ⟨F1, mt.up.trans g1.up, mt.thaw g1 f1, d1⟩
  | true =>
    refine ⟨F, Same.refl F, mt.stay g1 f1, ?_⟩
    cases d1 with
    | non => exact .non
    | bl b => exact .bl b
    | int i => exact .int i
    | str x => exact .str x
    | lst _ _ => cases hf
    | tup _ _ => cases hf
theorem own_at {o : Option C} {α : Type} {k : List D → M α} {s s' : Fd} {fl : α} (h : (match o with
    | some (.own ds) => k ds
    | _ => bad) s = some (fl, s')) : ∃ ds, o = some (.own ds) ∧ k ds s = some (fl, s') := by
  cases o with
  | none => cases h
  | some c =>
    cases c with
    | own ds => exact ⟨ds, rfl, h⟩
    | emp => cases h
    | val _ => cases h
    | feed => cases h
theorem if_ok {α : Type} {c : Bool} {a : M α} {s s' : Fd} {fl : α} (h : (if c = true then a else bad) s = some (fl, s')) : c = true ∧ a s = some (fl, s') := by
  cases c with
  | true => exact ⟨rfl, h⟩
  | false => cases h
theorem tyL {p : Addr} {xs : List V} (h : H p = some (.lst xs)) : tyV K "list" (.ref p) H := .inl ⟨rfl, xs, .inl (.inl h)⟩
theorem es_app {te : TE} {i : Nat} {e : E} (he : EvD K fo te σ (froz fs 0 ρ) (evE Γ e (froz fs 0 ρ))) : EvS K fo F0 H0 (tDrop (tBM K "list" rAppend (tVar i) (tCons te tNil))) σ ρ (evS Γ N (.app i e fs) ρ) := fun F H s fl s' mt h D L => by
  unfold evS at h
  obtain ⟨d, s1, e1, h1⟩ := mb_some h
  obtain ⟨ds, eo, h2⟩ := own_at h1
  obtain ⟨hl, h3⟩ := if_ok h2
  obtain ⟨rfl, rfl⟩ := ret_some h3
  obtain ⟨p, xs, k1, k2, k3⟩ := mt.own (behind_own eo)
  refine ⟨.ref p, k1, tyL k2, ?_⟩
  refine he _ H s d s' (mt.mx fs) e1 _ fun v F1 H1 g1 f1 d1 => ?_
  obtain ⟨F', sm, m1, d2⟩ := mt.behindU g1 f1 d1
  obtain ⟨q, ys, j1, j2, j3⟩ := m1.own eo
  rw [k1] at j1
  cases j1
  refine ⟨p, ys, v, rfl, rfl, j2, ?_, ?_⟩
  · rw [dvs_len j3]
    exact lt_line (lenOk_le hl)
  · exact L σ F' _ sm (m1.put eo k1 (dvs_app j3 (.cons d2 .nil)))
theorem es_ext {te : TE} {i : Nat} {e : E} (he : EvD K fo te σ (froz fs 0 ρ) (evE Γ e (froz fs 0 ρ))) : EvS K fo F0 H0 (tDrop (tBM K "list" rExtend (tVar i) (tCons te tNil))) σ ρ (evS Γ N (.ext i e fs) ρ) := fun F H s fl s' mt h D L => by
  unfold evS at h
  obtain ⟨d, s1, e1, h1⟩ := mb_some h
  have key : ∃ ds zs, (thaw fs 0 ρ)[i]? = some (.own ds) ∧ d = .list zs ∧ (if lenOk (ds.length + zs.length) = true then ret (Fl.nx ((thaw fs 0 ρ).set i (.own (ds ++ zs)))) else bad) s1 = some (fl, s') := by
    cases eo : (thaw fs 0 ρ)[i]? with
    | none => rw [eo] at h1; cases h1
    | some c =>
      rw [eo] at h1
      cases c with
      | own ds =>
        cases d with
        | list zs => exact ⟨ds, zs, rfl, rfl, h1⟩
        | _ => cases h1
      | emp => cases h1
      | val _ => cases h1
      | feed => cases h1
  obtain ⟨ds, zs, eo, rfl, h2⟩ := key
  obtain ⟨hl, h3⟩ := if_ok h2
  obtain ⟨rfl, rfl⟩ := ret_some h3
  obtain ⟨p, xs, k1, k2, k3⟩ := mt.own (thaw_own eo)
  refine ⟨.ref p, k1, tyL k2, ?_⟩
  refine he _ H s _ s' (mt.mx fs) e1 _ fun v F1 H1 g1 f1 d1 => ?_
  have m1 := mt.thaw g1 f1
  obtain ⟨q, ys, j1, j2, j3⟩ := m1.own eo
  rw [k1] at j1
  cases j1
  cases d1 with
  | @lst b us _ hq hd =>
    refine ⟨p, b, ys, us, rfl, rfl, j2, g1.sub _ _ hq, ?_, ?_⟩
    · rw [dvs_len j3, dvs_len hd]
      exact le_line (lenOk_le hl)
    · exact L σ F1 _ (mt.up.trans g1.up) (m1.put eo k1 (dvs_app j3 hd))
def rIns : V → List V → Hp → VK → Prop := fun x vs H Q => ∃ (l : Addr) (xs : List V) (i : Int) (y : V), x = .ref l ∧ vs = [.int i, y] ∧ H l = some (.lst xs) ∧ xs.length < sizeLine ∧ 0 ≤ i ∧ i < 2 ^ 63 ∧
    Q .non (upd H l (.lst (xs.take i.toNat ++ [y] ++ xs.drop i.toNat)))
theorem es_ins {tk te : TE} {i : Nat} {k e : E} (hk : EvD K fo tk σ (froz fs 0 ρ) (evE Γ k (froz fs 0 ρ))) (he : EvD K fo te σ (froz fs 0 ρ) (evE Γ e (froz fs 0 ρ))) :
    EvS K fo F0 H0 (tDrop (tBM K "list" rIns (tVar i) (tCons tk (tCons te tNil)))) σ ρ (evS Γ N (.ins i k e fs) ρ) := fun F H s fl s' mt h D L => by
  unfold evS at h
  obtain ⟨dk, s0, e0, h0⟩ := mb_some h
  obtain ⟨d, s1, e1, h1⟩ := mb_some h0
  have key : ∃ ds j, (behind fs d ρ)[i]? = some (.own ds) ∧ dk = .int j ∧ (if (decide (0 ≤ j ∧ j ≤ 1000000) && lenOk ds.length) = true then ret (Fl.nx ((behind fs d ρ).set i (.own (ds.take j.toNat ++ [d] ++ ds.drop j.toNat)))) else bad) s1 = some (fl, s') := by
    cases eo : (behind fs d ρ)[i]? with
    | none => rw [eo] at h1; cases h1
    | some c =>
      rw [eo] at h1
      cases c with
      | own ds =>
        cases dk with
        | int j => exact ⟨ds, j, rfl, rfl, h1⟩
        | _ => cases h1
      | emp => cases h1
      | val _ => cases h1
      | feed => cases h1
  obtain ⟨ds, j, eo, rfl, h2⟩ := key
  obtain ⟨hl, h3⟩ := if_ok h2
  obtain ⟨hj, hl2⟩ := Bool.and_eq_true_iff.mp hl
  have hj := of_decide_eq_true hj
  obtain ⟨rfl, rfl⟩ := ret_some h3
  obtain ⟨p, xs, k1, k2, k3⟩ := mt.own (behind_own eo)
  refine ⟨.ref p, k1, tyL k2, ?_⟩
  refine hk _ H s _ s0 (mt.mx fs) e0 _ fun u F1 H1 g1 f1 d1 => ?_
  refine he F1 H1 s0 d s' ((mt.mx fs).gr g1 f1) e1 _ fun v F2 H2 g2 f2 d2 => ?_
  obtain ⟨F', sm, m1, d3⟩ := mt.behindU (g1.trans g2) f2 d2
  obtain ⟨q, ys, j1, j2, j3⟩ := m1.own eo
  rw [k1] at j1
  cases j1
  cases d1
  refine ⟨p, ys, j, v, rfl, rfl, j2, ?_, hj.1, by omega, ?_⟩
  · rw [dvs_len j3]
    exact lt_line (lenOk_le hl2)
  · exact L σ F' _ sm (m1.put eo k1 (dvs_app (dvs_app (dvs_take _ j3) (.cons d3 .nil)) (dvs_drop _ j3)))
theorem es_sto {tk te : TE} {i : Nat} {k e : E} (hk : EvD K fo tk σ (froz fs 0 ρ) (evE Γ k (froz fs 0 ρ))) (he : EvD K fo te σ (froz fs 0 ρ) (evE Γ e (froz fs 0 ρ))) :
    EvS K fo F0 H0 (tAsg te (gSub (tVar i) tk rSetL)) σ ρ (evS Γ N (.sto i k e fs) ρ) := fun F H s fl s' mt h D L => by
  unfold evS at h
  obtain ⟨d, s0, e0, h0⟩ := mb_some h
  obtain ⟨dk, s1, e1, h1⟩ := mb_some h0
  have key : ∃ ds j, (behind fs d ρ)[i]? = some (.own ds) ∧ dk = .int j ∧ (if (decide (0 ≤ j) && decide (j.toNat < ds.length)) = true then ret (Fl.nx ((behind fs d ρ).set i (.own (ds.set j.toNat d)))) else bad) s1 = some (fl, s') := by
    cases eo : (behind fs d ρ)[i]? with
    | none => rw [eo] at h1; cases h1
    | some c =>
      rw [eo] at h1
      cases c with
      | own ds =>
        cases dk with
        | int j => exact ⟨ds, j, rfl, rfl, h1⟩
        | _ => cases h1
      | emp => cases h1
      | val _ => cases h1
      | feed => cases h1
  obtain ⟨ds, j, eo, rfl, h2⟩ := key
  obtain ⟨hl, h3⟩ := if_ok h2
  obtain ⟨hj, hl2⟩ := Bool.and_eq_true_iff.mp hl
  have hj := of_decide_eq_true hj
  have hl2 := of_decide_eq_true hl2
  obtain ⟨rfl, rfl⟩ := ret_some h3
  obtain ⟨p, xs, k1, k2, k3⟩ := mt.own (behind_own eo)
  refine he _ H s d s0 (mt.mx fs) e0 _ fun v F1 H1 g1 f1 d1 => ⟨.ref p, k1, ?_⟩
  refine hk F1 H1 s0 _ s' ((mt.mx fs).gr g1 f1) e1 _ fun u F2 H2 g2 f2 d2 => ?_
  obtain ⟨F', sm, m1, d3⟩ := mt.behindU (g1.trans g2) f2 (dv_up g2.up _ _ d1)
  obtain ⟨q, ys, j1, j2, j3⟩ := m1.own eo
  rw [k1] at j1
  cases j1
  cases d2
  refine ⟨p, ys, j, j.toNat, rfl, rfl, j2, ?_, L σ F' _ sm (m1.put eo k1 (dvs_set d3 _ j3))⟩
  unfold ixN
  have hlen := dvs_len j3
  rw [if_pos hj, if_pos (by omega)]
theorem feed_put {kL : Str} (hk : kL = "left" ∨ kL = "rest") (c : Addr) (s s' : Fd) (k : Fk) (j : Int) (h : fset s k (.int j) = some s') :
    putK [(Sum.inr ("cells" : Str), V.ref c), (Sum.inr ("spot" : Str), .int s.spot), (Sum.inr kL, .int s.left), (Sum.inr ("turn" : Str), .int s.turn)] (Sum.inr (fkName kL k) : Key) (.int j) =
      [(Sum.inr ("cells" : Str), V.ref c), (Sum.inr ("spot" : Str), .int s'.spot), (Sum.inr kL, .int s'.left), (Sum.inr ("turn" : Str), .int s'.turn)] ∧ s'.cells = s.cells := by
  have n1 : (Sum.inr ("cells" : Str) : Key) ≠ Sum.inr ("spot" : Str) := ne_inr (by decide +kernel)
  have n2 : (Sum.inr ("cells" : Str) : Key) ≠ Sum.inr ("turn" : Str) := ne_inr (by decide +kernel)
  have n3 : (Sum.inr ("spot" : Str) : Key) ≠ Sum.inr ("turn" : Str) := ne_inr (by decide +kernel)
  have n4 : (Sum.inr ("cells" : Str) : Key) ≠ Sum.inr kL := by rcases hk with rfl | rfl <;> exact ne_inr (by decide +kernel)
  have n5 : (Sum.inr ("spot" : Str) : Key) ≠ Sum.inr kL := by rcases hk with rfl | rfl <;> exact ne_inr (by decide +kernel)
  have n6 : (Sum.inr kL : Key) ≠ Sum.inr ("turn" : Str) := by rcases hk with rfl | rfl <;> exact ne_inr (by decide +kernel)
  cases k with
  | cells => cases h
  | spot =>
    cases h
    refine ⟨?_, rfl⟩
    show putK _ (Sum.inr ("spot" : Str)) _ = _
    simp only [putK, List.any_cons, List.any_nil, List.map_cons, List.map_nil, n1, n1.symm, n3, n3.symm, n5, n5.symm, if_true, if_false, decide_true, decide_false, Bool.or_true, Bool.true_or, Bool.false_or, ne_eq]
  | left =>
    cases h
    refine ⟨?_, rfl⟩
    show putK _ (Sum.inr kL) _ = _
    simp only [putK, List.any_cons, List.any_nil, List.map_cons, List.map_nil, n4, n4.symm, n5, n5.symm, n6, n6.symm, if_true, if_false, decide_true, decide_false, Bool.or_true, Bool.true_or, Bool.false_or, ne_eq]
  | turn =>
    cases h
    refine ⟨?_, rfl⟩
    show putK _ (Sum.inr ("turn" : Str)) _ = _
    simp only [putK, List.any_cons, List.any_nil, List.map_cons, List.map_nil, n2, n2.symm, n3, n3.symm, n6, n6.symm, if_true, if_false, decide_true, decide_false, Bool.or_true, Bool.true_or, Bool.false_or, ne_eq]
theorem es_fset {kL : Str} {te : TE} {i : Nat} {k : Fk} {e : E} (hkl : kL = "left" ∨ kL = "rest") (hf : FoL kL fo) (he : EvD K fo te σ (froz [] 0 ρ) (evE Γ e (froz [] 0 ρ))) :
    EvS K fo F0 H0 (sDPut (tVar i) (tC (.str (fkName kL k))) te) σ ρ (evS Γ N (.fset i k e) ρ) := fun F H s fl s' mt h D L => by
  unfold evS at h
  obtain ⟨d, s1, e1, h1⟩ := mb_some h
  cases eo : ρ[i]? with
  | none => rw [eo] at h1; cases h1
  | some c =>
    rw [eo] at h1
    cases c with
    | feed =>
      have h2 : (fset s1 k d).map (fun s' => (Fl.nx ρ, s')) = some (fl, s') := h1
      obtain ⟨s2, e2, e3⟩ := Option.map_eq_some_iff.mp h2
      cases e3
      have hd : ∃ j, d = .int j := by
        cases d with
        | int j => exact ⟨j, rfl⟩
        | _ => cases k <;> cases e2
      obtain ⟨j, rfl⟩ := hd
      refine he _ H s _ s1 (mt.mx []) e1 _ fun v F1 H1 g1 f1 d1 => ?_
      have m1 := mt.stay g1 f1
      cases d1
      obtain ⟨f, k0, z1, z2⟩ := m1.slot i _ eo
      have ek := hf f k0 z1
      subst ek
      subst z1
      obtain ⟨nf, c, hc, hl⟩ := m1.feed
      obtain ⟨pq, pc⟩ := feed_put hkl c s1 s' k j e2
      refine ⟨.ref f, z2, f, _, rfl, DPut.k (k := Sum.inr (fkName k0 k)) hc (lt_line (show 4 ≤ 1000000 by decide)), ?_⟩
      rw [pq]
      refine L σ F _ (Same.refl F) (m1.fput rfl hc ⟨nf, c, upd_same, ?_⟩)
      rw [pc]
      exact hl
    | emp => cases h1
    | val _ => cases h1
    | own _ => cases h1
end
end Qv

namespace Qv
open PySem PySem.Spec PyProof.Rows L2
/-! ### statements, looked at -/
def notComp : Expr → Bool
  | .ListComp _ _ _ _ => false
  | .SetComp _ _ _ _ => false
  | .DictComp _ _ _ _ _ => false
  | _ => true
def isNmE : Expr → Bool
  | .Name _ _ => true
  | _ => false
def notTup : Expr → Bool
  | .Tuple _ _ _ => false
  | _ => true
theorem sw_no {e : Expr} (h : notComp e = true) (t : Option Expr) (l : Nat) (env : PySem.Env) : swapsWith e t l env = pure false := by
  cases e <;> first | rfl | cases h
/-- a name on the left, seen -/
def nmTg (sc : Scope) : Expr → Bool
  | .Name x _ => (match sc.names.lookup x with
    | some .local => true
    | _ => false)
  | _ => false
def lineOf : Expr → Nat
  | .Name _ p => p.line
  | _ => 0
/-- stored from the right? -/
def swp2 (sc : Scope) (ts vs : List Expr) : Bool := match ts, vs with
  | [.Name x p, .Name y q], [a, b] => nmTg sc (.Name x p) && (nmTg sc (.Name y q) && ((q.line == p.line) && (decide (x ≠ y) && (notStar a && (notStar b && (!(foldedForSure 8 a && foldedForSure 8 b) && !(constantsAlone 8 a && constantsAlone 8 b)))))))
  | _, _ => false
def swp3 (sc : Scope) (ts vs : List Expr) : Bool := match ts, vs with
  | [.Name x p, .Name y q, .Name z r], [a, b, c] => nmTg sc (.Name x p) && (nmTg sc (.Name y q) && (nmTg sc (.Name z r) && ((q.line == p.line) && ((r.line == p.line) && (decide (x ≠ y) && (decide (x ≠ z) && (decide (y ≠ z) && (notStar a && (notStar b && (notStar c &&
      (!(foldedForSure 8 a && (foldedForSure 8 b && foldedForSure 8 c)) && !(constantsAlone 8 a && (constantsAlone 8 b && constantsAlone 8 c)))))))))))))
  | _, _ => false
/-- stored from the left: all are constants for sure, or there are four and more, or one of the names is no plain local -/
def swp0 (sc : Scope) (ts vs : List Expr) : Bool := (decide (4 ≤ ts.length) || (vs.all (foldedForSure 8) || ts.any fun t => !nmTg sc t)) && decide (vs.length = ts.length)
theorem fm_le {α β : Type} (f : α → Option β) : ∀ l : List α, (l.filterMap f).length ≤ l.length
  | [] => Nat.le_refl _
  | x :: r => by
    rw [List.filterMap_cons]
    cases f x with
    | none => exact Nat.le_succ_of_le (fm_le f r)
    | some y => exact Nat.succ_le_succ (fm_le f r)
theorem fm_lt {α β : Type} (f : α → Option β) : ∀ l : List α, (∃ x ∈ l, f x = none) → (l.filterMap f).length < l.length
  | [], ⟨_, h, _⟩ => nomatch h
  | x :: r, ⟨y, h, e⟩ => by
    rw [List.filterMap_cons]
    rcases List.mem_cons.mp h with rfl | h
    · rw [e]
      exact Nat.lt_succ_of_le (fm_le f r)
    · have ih := fm_lt f r ⟨y, h, e⟩
      cases f x with
      | none => exact Nat.lt_succ_of_lt ih
      | some z => exact Nat.succ_lt_succ ih
theorem blockF {env : PySem.Env} (hk : env.scope.kind = .function) : env.blockKind = .function := by
  unfold Env.blockKind
  rw [hk]
  rfl
def isStar : Expr → Bool
  | .Starred .. => true
  | _ => false
theorem notStar_eq {e : Expr} (h : notStar e = true) : isStar e = false := by
  cases e <;> first | rfl | cases h
theorem nmTg_of {sc : Scope} {x : Str} {p : Pos} (h : nmTg sc (.Name x p) = true) : sc.names.lookup x = some .local := by
  have h' : (match sc.names.lookup x with
    | some .local => true
    | _ => false) = true := h
  split at h'
  · assumption
  · cases h'
theorem kind_of {sc : Scope} {env : PySem.Env} {x : Str} (hs : env.scope = sc) (h : sc.names.lookup x = some .local) : env.kindOf x = some .local := by
  show env.scope.names.lookup x = _
  rw [hs]
  exact h
theorem swp2_of {sc : Scope} {env : PySem.Env} {x y : Str} {p q pt pt2 : Pos} {a b : Expr} {k k2 : Nat} (hs : env.scope = sc) (hk : sc.kind = .function) (h : swp2 sc [.Name x p, .Name y q] [a, b] = true) :
    swappedStores [.Tuple [.Name x p, .Name y q] k pt] (.Tuple [a, b] k2 pt2) env = pure (some [x, y]) ∧ x ≠ y ∧ sc.names.lookup x = some .local ∧ sc.names.lookup y = some .local := by
  obtain ⟨h1, h2⟩ := and2 h
  obtain ⟨h3, h4⟩ := and2 h2
  obtain ⟨h5, h6⟩ := and2 h4
  obtain ⟨h7, h8⟩ := and2 h6
  obtain ⟨h9, h10⟩ := and2 h8
  obtain ⟨h11, h12⟩ := and2 h10
  obtain ⟨h13, h14⟩ := and2 h12
  have nx := of_decide_eq_true h7
  have kx := kind_of hs (nmTg_of h1)
  have ky := kind_of hs (nmTg_of h3)
  have hb : env.blockKind = .function := blockF (by rw [hs]; exact hk)
  have sa := notStar_eq h9
  have sb := notStar_eq h11
  have f1 := notB h13
  have f2 := notB h14
  refine ⟨?_, nx, nmTg_of h1, nmTg_of h3⟩
  have he : [x, y].eraseDups.length = 2 := by
    have : (y == x) = false := by
      rw [beq_eq_false_iff_ne]
      exact fun z => nx z.symm
    simp [List.eraseDups_cons, this]
  have he' : (List.length [x, y] != List.length [(Expr.Name x p), .Name y q] || [x, y].eraseDups.length != List.length [x, y]) = false := by
    rw [he]
    rfl
  unfold swappedStores
  simp only [hb]
  simp only [List.filterMap_cons, List.filterMap_nil, kx, ky, h5, List.any_cons, List.any_nil, List.all_cons, List.all_nil, Bool.and_true, f1, f2, Expr.pos, List.head?_cons, Option.map_some, Option.getD_some, beq_self_eq_true, Bool.true_and, if_true]
  simp only [he']
  refine (if_neg Bool.false_ne_true).trans ((if_neg fun z => ?_).trans rfl)
  rcases (Bool.or_eq_true _ _).mp z with z | z
  · exact Bool.false_ne_true (sa.symm.trans z)
  · rcases (Bool.or_eq_true _ _).mp z with z | z
    · exact Bool.false_ne_true (sb.symm.trans z)
    · cases z
theorem swp3_of {sc : Scope} {env : PySem.Env} {x y z : Str} {p q r pt pt2 : Pos} {a b c : Expr} {k k2 : Nat} (hs : env.scope = sc) (hk : sc.kind = .function) (h : swp3 sc [.Name x p, .Name y q, .Name z r] [a, b, c] = true) :
    swappedStores [.Tuple [.Name x p, .Name y q, .Name z r] k pt] (.Tuple [a, b, c] k2 pt2) env = pure (some [x, y, z]) ∧ (x ≠ y ∧ x ≠ z ∧ y ≠ z) ∧ sc.names.lookup x = some .local ∧ sc.names.lookup y = some .local ∧ sc.names.lookup z = some .local := by
  obtain ⟨h1, h2⟩ := and2 h
  obtain ⟨h3, h4⟩ := and2 h2
  obtain ⟨h5, h6⟩ := and2 h4
  obtain ⟨h7, h8⟩ := and2 h6
  obtain ⟨h9, h10⟩ := and2 h8
  obtain ⟨h11, h12⟩ := and2 h10
  obtain ⟨h13, h14⟩ := and2 h12
  obtain ⟨h15, h16⟩ := and2 h14
  obtain ⟨h17, h18⟩ := and2 h16
  obtain ⟨h19, h20⟩ := and2 h18
  obtain ⟨h21, h22⟩ := and2 h20
  obtain ⟨h23, h24⟩ := and2 h22
  have n1 := of_decide_eq_true h11
  have n2 := of_decide_eq_true h13
  have n3 := of_decide_eq_true h15
  have kx := kind_of hs (nmTg_of h1)
  have ky := kind_of hs (nmTg_of h3)
  have kz := kind_of hs (nmTg_of h5)
  have hb : env.blockKind = .function := blockF (by rw [hs]; exact hk)
  have sa := notStar_eq h17
  have sb := notStar_eq h19
  have sc' := notStar_eq h21
  have f1 := notB h23
  have f2 := notB h24
  refine ⟨?_, ⟨n1, n2, n3⟩, nmTg_of h1, nmTg_of h3, nmTg_of h5⟩
  have he : [x, y, z].eraseDups.length = 3 := by
    have e1 : (y == x) = false := by
      rw [beq_eq_false_iff_ne]
      exact fun w => n1 w.symm
    have e2 : (z == x) = false := by
      rw [beq_eq_false_iff_ne]
      exact fun w => n2 w.symm
    have e3 : (z == y) = false := by
      rw [beq_eq_false_iff_ne]
      exact fun w => n3 w.symm
    simp [List.eraseDups_cons, e1, e2, e3]
  have he' : (List.length [x, y, z] != List.length [(Expr.Name x p), .Name y q, .Name z r] || [x, y, z].eraseDups.length != List.length [x, y, z]) = false := by
    rw [he]
    rfl
  unfold swappedStores
  simp only [hb]
  simp only [List.filterMap_cons, List.filterMap_nil, kx, ky, kz, h7, h9, List.any_cons, List.any_nil, List.all_cons, List.all_nil, Bool.and_true, f1, f2, Expr.pos, List.head?_cons, Option.map_some, Option.getD_some, beq_self_eq_true, Bool.true_and, if_true]
  simp only [he']
  refine (if_neg Bool.false_ne_true).trans ((if_neg fun w => ?_).trans rfl)
  rcases (Bool.or_eq_true _ _).mp w with w | w
  · exact Bool.false_ne_true (sa.symm.trans w)
  · rcases (Bool.or_eq_true _ _).mp w with w | w
    · exact Bool.false_ne_true (sb.symm.trans w)
    · rcases (Bool.or_eq_true _ _).mp w with w | w
      · exact Bool.false_ne_true (sc'.symm.trans w)
      · cases w
theorem swp0_of {sc : Scope} {env : PySem.Env} {ts vs : List Expr} {pt pt2 : Pos} {k k2 : Nat} (hs : env.scope = sc) (h : swp0 sc ts vs = true) : swappedStores [.Tuple ts k pt] (.Tuple vs k2 pt2) env = pure none := by
  obtain ⟨h1, h2⟩ := and2 h
  have hl := of_decide_eq_true h2
  unfold swappedStores
  simp only []
  split
  · rfl
  · rename_i hA
    split
    · rfl
    · split
      · rfl
      · rename_i hC
        rcases (Bool.or_eq_true _ _).mp h1 with z | z
        · exfalso
          have z := of_decide_eq_true z
          apply hA
          have e1 : (ts.length == 2) = false := by rw [beq_eq_false_iff_ne]; omega
          have e2 : (ts.length == 3) = false := by rw [beq_eq_false_iff_ne]; omega
          rw [e1, e2]
          rfl
        · rcases (Bool.or_eq_true _ _).mp z with z | z
          · rw [if_pos z]
          · exfalso
            obtain ⟨t, ht, hn⟩ := List.any_eq_true.mp z
            have hn := notB hn
            apply hC
            refine (Bool.or_eq_true _ _).mpr (.inl ?_)
            rw [bne_iff_ne]
            refine Nat.ne_of_lt (fm_lt _ _ ⟨t, ht, ?_⟩)
            cases t with
            | Name x p =>
              have hk : (env.kindOf x == some .local) = false := by
                rw [beq_eq_false_iff_ne]
                intro e
                have e' : env.scope.names.lookup x = some .local := e
                rw [hs] at e'
                have : nmTg sc (.Name x p) = true := by
                  show (match sc.names.lookup x with
                    | some .local => true
                    | _ => false) = true
                  rw [e']
                rw [this] at hn
                cases hn
              show (if (env.kindOf x == some .local && _) = true then some x else none) = none
              rw [hk]
              rfl
            | _ => rfl
end Qv

namespace Qv
open PySem PySem.Spec PyProof.Rows L2
def allFn : Str → Bool := fun _ => true
def isNewE : E → Bool
  | .lst _ => true
  | .comp _ _ _ _ _ => true
  | .bi .list _ => true
  | _ => false
def newL : List Bool → Es → Bool
  | [], .nil => true
  | o :: os, .cons e es => (!o || isNewE e) && newL os es
  | _, _ => false
def ascB (sc : Scope) (y : Str) (py : Pos) : Expr → Bool
  | .ListComp _ _ s p => nmTg sc (.Name y py) && ((py.line == p.line) && !(s.names.any fun (n, k) => n == y && (k == .local || k == .cell)))
  | _ => false
def seenB (N : List Str) (sc : Scope) (i : Nat) (x : Str) : Bool := decide (N[i]? = some x) && (visB sc x && nmOk x)
mutual
def chkS (kL : Str) (N : List Str) (sc : Scope) : Sm → Stmt → Bool
  | .asg t e _, st => (match st with
    | .Assign [tg] x _ => (chkTg N sc allFn t tg && (notComp x && (isNmE tg || notTup x))) && chkE kL N sc e x
    | _ => false)
  | .new i e _, st => (match st with
    | .Assign [tg] x _ => (chkTg N sc allFn (.nm i) tg && (notComp x && isNewE e)) && chkE kL N sc e x
    | _ => false)
  | .asc _ i elt t it c own _, st => (match st with
    | .Assign [.Name y py] x _ => (decide (N[i]? = some y) && ascB sc y py x) && chkE kL N sc (.comp elt t it c own) x
    | _ => false)
  | .par is es ows _, st => (match st with
    | .Assign [.Tuple ts _ _] (.Tuple vs _ _) _ => (chkNames N sc allFn is ts && (swp2 sc ts vs || (swp3 sc ts vs || swp0 sc ts vs))) && (chkL kL N sc es vs && (newL ows es && decide (esLen es ≤ 1000)))
    | _ => false)
  | .exp e _, st => (match st with
    | .Expr x _ => notComp x && chkE kL N sc e x
    | _ => false)
  | .ret e _, st => (match st with
    | .Return (some x) _ => chkE kL N sc e x
    | _ => false)
  | .retN, st => (match st with
    | .Return none _ => true
    | _ => false)
  | .iff c _ a b, st => (match st with
    | .If x p q _ => (tst c x && chkE kL N sc c x) && (chkSs kL N sc a p && chkSs kL N sc b q)
    | _ => false)
  | .fr t it _ b, st => (match st with
    | .For tg iter body [] _ => (notSet iter && chkTg N sc allFn t tg) && (chkI kL N sc it tg iter && chkSs kL N sc b body)
    | _ => false)
  | .whl c _ b, st => (match st with
    | .While x body [] _ => (tst c x && chkE kL N sc c x) && chkSs kL N sc b body
    | _ => false)
  | .app i e _, st => (match st with
    | .Expr (.Call (.Attribute (.Name x _) nm ap) [y] [] cp) _ => (seenB N sc i x && (decide (nm = ("append" : Str)) && ((ap.endLine == cp.line) && notStar y))) && chkE kL N sc e y
    | _ => false)
  | .ext i e _, st => (match st with
    | .Expr (.Call (.Attribute (.Name x _) nm ap) [y] [] cp) _ => (seenB N sc i x && (decide (nm = ("extend" : Str)) && ((ap.endLine == cp.line) && notStar y))) && chkE kL N sc e y
    | _ => false)
  | .ins i k e _, st => (match st with
    | .Expr (.Call (.Attribute (.Name x _) nm ap) [z, y] [] cp) _ => (seenB N sc i x && (decide (nm = ("insert" : Str)) && ((ap.endLine == cp.line) && (notStar z && notStar y)))) && (chkE kL N sc k z && chkE kL N sc e y)
    | _ => false)
  | .sto i k e _, st => (match st with
    | .Assign [.Subscript (.Name x _) z _] y _ => (seenB N sc i x && (notSlice z && notComp y)) && (chkE kL N sc k z && chkE kL N sc e y)
    | _ => false)
  | .fset i k e, st => (match st with
    | .Assign [.Subscript (.Name x _) (.Constant (.str z) _ _) _] y _ => (seenB N sc i x && (decide (z = fkName kL k) && notComp y)) && chkE kL N sc e y
    | _ => false)
  | .brk, st => (match st with
    | .Break _ => true
    | _ => false)
  | .cnt, st => (match st with
    | .Continue _ => true
    | _ => false)
  | .pass, st => (match st with
    | .Pass _ => true
    | .Expr (.Constant (.str _) _ _) _ => true
    | _ => false)
  | .nev, _ => true
def chkSs (kL : Str) (N : List Str) (sc : Scope) : Ss → List Stmt → Bool
  | .nil, l => (match l with
    | [] => true
    | _ => false)
  | .cons m r, l => (match l with
    | x :: xs => chkS kL N sc m x && chkSs kL N sc r xs
    | [] => false)
end
/-! ### over a set of contexts -/
structure InB (b : B) (sc : Scope) (S : Vr → Prop) : Prop where
  sc : ∀ v, S v → v.env.scope = sc
  fn : ∀ v, S v → v.fn = allFn
  own : ∀ v, S v → PassesOwn (model b.prog b.w) b.A v.env v.xe
def GS (kL : Str) (b : B) (S : Vr → Prop) (st : Stmt) (f : Rho → M Fl) : Prop := ∃ t, (∀ v, S v → PS (mk b v) st t) ∧ ∀ fo F0 H0 σ ρ, FoL kL fo → EvS b.K fo F0 H0 t σ ρ (f ρ)
def GSs (kL : Str) (b : B) (S : Vr → Prop) (st : List Stmt) (f : Rho → M Fl) : Prop := ∃ t, (∀ v, S v → PSs (mk b v) st t) ∧ ∀ fo F0 H0 σ ρ, FoL kL fo → EvS b.K fo F0 H0 t σ ρ (f ρ)
def GN (kL : Str) (b : B) (S : Vr → Prop) (e : Expr) (f : Rho → M D) : Prop := ∃ te, (∀ v, S v → PE (mk b v) e te) ∧ (∀ fo σ ρ, FoL kL fo → EvN b.K fo te σ ρ (f ρ)) ∧ ∀ ρ s d s', f ρ s = some (d, s') → ∃ ds, d = .list ds
def GP (kL : Str) (b : B) (S : Vr → Prop) (es : List Expr) (os : List Bool) (f : Rho → M (List D)) : Prop := ∃ ta, (∀ v, S v → PA (mk b v) es ta) ∧ ∀ fo σ ρ, FoL kL fo → EvP b.K fo ta σ ρ os (f ρ)
section
variable {kL : Str} {Γ : Gam} {n : Nat} {b : B} {S : Vr → Prop} {sc : Scope}
theorem gn_list {es : Es} {l : List Expr} {p p' : Pos} (G : GOk kL Γ n b) (hs : ∀ v, S v → v.env.scope = sc) (h1 : glB sc "list" = true) (hl : chkL kL b.N sc es l = true) (ha : GL kL b S l (evL Γ es)) : GN kL b S (.Call (.Name "list" p) l [] p') (evE Γ (.bi .list es)) := by
  have hlist : ∀ ρ s d s', evE Γ (.bi .list es) ρ s = some (d, s') → ∃ ds, d = .list ds := fun ρ s d s' h => by
    unfold evE at h
    obtain ⟨ds, s1, e1, h3⟩ := mb_some h
    obtain ⟨h2, _⟩ := ofO_some h3
    obtain ⟨a, rfl⟩ := bi_one h2
    cases a <;> cases h2 <;> exact ⟨_, rfl⟩
  cases l with
  | nil =>
    refine ⟨tBad, fun _ _ => pe_bad, fun fo σ ρ _ F H s ds s' _ h => ?_, hlist⟩
    unfold evE at h
    obtain ⟨ds, s1, e1, h3⟩ := mb_some h
    obtain ⟨h2, _⟩ := ofO_some h3
    cases es with
    | nil =>
      have := evL_len Es.nil _ _ _ e1
      obtain ⟨a, rfl⟩ := bi_one h2
      cases this
    | cons _ _ => cases hl
  | cons x r =>
    obtain ⟨ta, a1, a2⟩ := ha
    have hx : notStar x = true ∧ ∃ es', chkL kL b.N sc es' r = true := by
      cases es with
      | nil => cases hl
      | cons e es' =>
        have hl' : (notStar x && (chkE kL b.N sc e x && chkL kL b.N sc es' r)) = true := hl
        obtain ⟨z1, z2⟩ := and2 hl'
        exact ⟨z1, es', (and2 z2).2⟩
    obtain ⟨z1, es', z2⟩ := hx
    refine ⟨tCB (biR b.K .list) ta, fun v hv => ?_, fun fo σ ρ hf F H s ds s' mx h Q q => ?_, hlist⟩
    · have gl : Gl (mk b v) "list" := by
        show v.env.scope.names.lookup _ = _
        rw [hs v hv]
        exact gl_of h1
      exact pe_callTy call_list_of gl (G.blt _ (mem_blt (by decide +kernel))) (by decide +kernel) (a1 v hv) (by decide +kernel) (by decide +kernel) (star_of z1 r v.env) (chkL_plain (pos := p') (env := v.env) es' r z2).1
    · unfold evE at h
      obtain ⟨as, s1, e1, h3⟩ := mb_some h
      obtain ⟨h2, rfl⟩ := ofO_some h3
      refine a2 fo σ ρ hf F H s as s' mx e1 _ fun vs F1 H1 g1 f1 d1 => ?_
      obtain ⟨a, rfl⟩ := bi_one h2
      obtain ⟨v, rfl, da⟩ := dvs_one d1
      cases da with
      | @lst p0 xs es0 hq hd =>
        cases h2
        refine ⟨p0, xs, rfl, .inl (.inl (.inl (g1.sub _ _ hq))), fun l hl => ?_⟩
        have g : Gr none F1 H1 F1 (upd H1 l (.lst xs)) := Gr.free g1.sub hl
        exact q l xs F1 _ (g1.trans g.any) (f1.gr g) (g1.back f1 hl) upd_same (g1.sub.free hl) hd
      | @tup p0 xs es0 hq hd =>
        cases h2
        refine ⟨p0, xs, rfl, .inr (sqT_up g1.sub hq), fun l hl => ?_⟩
        have g : Gr none F1 H1 F1 (upd H1 l (.lst xs)) := Gr.free g1.sub hl
        exact q l xs F1 _ (g1.trans g.any) (f1.gr g) (g1.back f1 hl) upd_same (g1.sub.free hl) hd
      | _ => cases h2
theorem sN (G : GOk kL Γ n b) (hs : ∀ v, S v → v.env.scope = sc) {e : E} {x : Expr} (h0 : isNewE e = true) (h : chkE kL b.N sc e x = true) : GN kL b S x (evE Γ e) := by
  cases e with
  | lst es =>
    cases x with
    | List l p =>
      obtain ⟨h1, h2⟩ := and2 h
      obtain ⟨ta, a1, a2⟩ := sL G es S sc l hs h2
      refine ⟨tLst ta, fun v hv => pe_lst (a1 v hv), fun fo σ ρ hf => ev_lst (of_decide_eq_true h1) (a2 fo σ ρ hf), fun ρ s d s' z => ?_⟩
      unfold evE at z
      obtain ⟨ds, s1, _, z3⟩ := mb_some z
      obtain ⟨z4, _⟩ := ret_some z3
      exact ⟨ds, z4.symm⟩
    | _ => cases h
  | comp elt t it c own =>
    unfold chkE at h
    split at h
    · obtain ⟨h1, h2⟩ := and2 h
      obtain ⟨k1, k3⟩ := and2 h1
      obtain ⟨q3, q4⟩ := and2 k3
      obtain ⟨q2, k5⟩ := and2 h2
      obtain ⟨q5, k6⟩ := and2 k5
      obtain ⟨q6, q7⟩ := and2 k6
      have hown : ∀ i ∈ tgSlots t, i ∈ own.map (·.2) := fun i hi => List.contains_iff_mem.mp (List.all_eq_true.mp q4 i hi)
      obtain ⟨wi, tt, te, z1, z2⟩ := ge_comp G hs k1 q3 hown q5 (sI G it S sc _ _ hs q2) (sC G c (inBlk b S _) _ _ (blk_scope hs) q6) (sE G elt (inBlk b S _) _ _ (blk_scope hs) q7)
      refine ⟨_, fun v hv => ?_, z2, fun ρ => comp_list⟩
      obtain ⟨j1, j2, j3, j4, j5⟩ := z1 v hv
      exact pe_lc rfl G.nd j1 j2 j3 j4 j5 (set_of q3 _)
    · cases h
  | bi o es =>
    cases o with
    | list =>
      unfold chkE at h
      split at h
      · obtain ⟨h1, h2⟩ := and2 h
        obtain ⟨k1, k3⟩ := and2 h1
        have e := of_decide_eq_true k1
        subst e
        exact gn_list G hs k3 h2 (sL G es S sc _ hs h2)
      · cases h
    | _ => cases h0
  | _ => cases h0
theorem sP (G : GOk kL Γ n b) (hs : ∀ v, S v → v.env.scope = sc) : ∀ (os : List Bool) (es : Es) (l : List Expr), newL os es = true → chkL kL b.N sc es l = true → GP kL b S l os (evL Γ es)
  | [], .nil, [], _, _ => ⟨tNil, fun _ _ => pa_nil, fun fo σ ρ _ => ep_nil⟩
  | [], .nil, _ :: _, _, h => by cases h
  | [], .cons _ _, _, h, _ => by cases h
  | _ :: _, .nil, _, h, _ => by cases h
  | _ :: _, .cons _ _, [], _, h => by cases h
  | o :: os, .cons e es, x :: r, h0, h => by
    obtain ⟨k1, k2⟩ := and2 h0
    obtain ⟨h1, h2⟩ := and2 h
    obtain ⟨h3, h4⟩ := and2 h2
    obtain ⟨ta, i1, i2⟩ := sP G hs os es r k2 h4
    cases o with
    | false =>
      obtain ⟨te, a1, a2⟩ := sE G e S sc x hs h3
      exact ⟨tCons te ta, fun v hv => pa_cons (a1 v hv) (i1 v hv) (star_of h1 _ _), fun fo σ ρ hf => ep_val (a2 fo σ ρ hf) (i2 fo σ ρ hf)⟩
    | true =>
      obtain ⟨te, a1, a2, a3⟩ := sN G hs k1 h3
      exact ⟨tCons te ta, fun v hv => pa_cons (a1 v hv) (i1 v hv) (star_of h1 _ _), fun fo σ ρ hf => ep_own (a3 ρ) (a2 fo σ ρ hf) (i2 fo σ ρ hf)⟩
end
end Qv

namespace Qv
open PySem PySem.Spec PyProof.Rows L2
section
variable {kL : Str} {Γ : Gam} {n N : Nat} {b : B} {S : Vr → Prop} {sc : Scope}
theorem asg_ps {b : B} {v : Vr} {t : Tg} {tg x : Expr} {te : TE} {pos : Pos} (hg : PG (mk b v) tg (gOf b.K t)) (ht : chkTg b.N sc allFn t tg = true) (hx : PE (mk b v) x te) (h1 : notComp x = true) (h2 : (isNmE tg || notTup x) = true) : PS (mk b v) (.Assign [tg] x pos) (tAsg te (gOf b.K t)) := by
  refine ps_asg hx hg ?_ ?_ ?_
  · exact sw_no h1 _ _ _
  · cases t with
    | nm i =>
      cases tg with
      | Name y p => rfl
      | _ => cases ht
    | tp is =>
      cases tg with
      | Tuple l k p =>
        cases x <;> first | rfl | cases h2
      | _ => cases ht
  · cases t with
    | nm i =>
      cases tg with
      | Name y p => rfl
      | _ => cases ht
    | tp is =>
      cases tg with
      | Tuple l k p => rfl
      | _ => cases ht
theorem gs_asg {t : Tg} {e : E} {fs : List Nat} {tg x : Expr} {pos : Pos} (G : GOk kL Γ n b) (I : InB b sc S) (ht : chkTg b.N sc allFn t tg = true) (h1 : notComp x = true) (h2 : (isNmE tg || notTup x) = true) (hx : GE kL b S x (evE Γ e)) : GS kL b S (.Assign [tg] x pos) (evS Γ N (.asg t e fs)) := by
  obtain ⟨te, a1, a2⟩ := hx
  refine ⟨tAsg te (gOf b.K t), fun v hv => asg_ps (tg_pg G.nd I.sc I.fn ht v hv) ht (a1 v hv) h1 h2, fun fo F0 H0 σ ρ hf => ?_⟩
  unfold evS
  exact es_asg (a2 fo σ _ hf)
theorem gs_new {i : Nat} {e : E} {fs : List Nat} {tg x : Expr} {pos : Pos} (G : GOk kL Γ n b) (I : InB b sc S) (ht : chkTg b.N sc allFn (.nm i) tg = true) (h1 : notComp x = true) (hx : GN kL b S x (evE Γ e)) : GS kL b S (.Assign [tg] x pos) (evS Γ N (.new i e fs)) := by
  obtain ⟨te, a1, a2, _⟩ := hx
  have h2 : (isNmE tg || notTup x) = true := by
    cases tg with
    | Name y p => rfl
    | _ => cases ht
  refine ⟨tAsg te (gName i), fun v hv => asg_ps (t := .nm i) (tg_pg G.nd I.sc I.fn ht v hv) ht (a1 v hv) h1 h2, fun fo F0 H0 σ ρ hf => ?_⟩
  unfold evS
  exact es_new (a2 fo σ _ hf)
theorem gs_asc {ow : Bool} {i : Nat} {elt : E} {t : Tg} {it : It} {c : Eo} {own : List (Str × Nat)} {fs : List Nat} {y : Str} {py pos : Pos} {x : Expr} (G : GOk kL Γ n b) (I : InB b sc S) (hk : sc.kind = .function) (hi : b.N[i]? = some y) (ha : ascB sc y py x = true) (h : chkE kL b.N sc (.comp elt t it c own) x = true) :
    GS kL b S (.Assign [.Name y py] x pos) (evS Γ N (.asc ow i elt t it c own fs)) := by
  unfold chkE at h
  split at h
  · rename_i x0 tg iter ifs scope cp
    obtain ⟨h1, h2⟩ := and2 h
    obtain ⟨k1, k3⟩ := and2 h1
    obtain ⟨q3, q4⟩ := and2 k3
    obtain ⟨q2, k5⟩ := and2 h2
    obtain ⟨q5, k6⟩ := and2 k5
    obtain ⟨q6, q7⟩ := and2 k6
    obtain ⟨a1, a2⟩ := and2 ha
    obtain ⟨a3, a4⟩ := and2 a2
    have hown : ∀ i ∈ tgSlots t, i ∈ own.map (·.2) := fun i hi => List.contains_iff_mem.mp (List.all_eq_true.mp q4 i hi)
    obtain ⟨wi, tt, te, z1, z2⟩ := ge_comp G I.sc k1 q3 hown q5 (sI G it S sc _ _ I.sc q2) (sC G c (inBlk b S _) _ _ (blk_scope I.sc) q6) (sE G elt (inBlk b S _) _ _ (blk_scope I.sc) q7)
    refine ⟨tAsg (tLc wi (gOf b.K t) tt te (own.map (·.2))) (gName i), fun v hv => ?_, fun fo F0 H0 σ ρ hf => ?_⟩
    · obtain ⟨j1, j2, j3, j4, j5⟩ := z1 v hv
      have hl : (mk b v).env.scope.names.lookup y = some .local := by
        show v.env.scope.names.lookup y = _
        rw [I.sc v hv]
        exact nmTg_of a1
      have hkk : (mk b v).env.scope.kind = .function := by
        show v.env.scope.kind = _
        rw [I.sc v hv]
        exact hk
      exact ps_setLc (X := mk b v) rfl G.nd hi hl (sw_true hkk hl a3 (notB a4)) j1 j2 j3 j4 j5 (set_of q3 _)
    · unfold evS
      cases ow with
      | true => exact es_new (z2 fo σ _ hf)
      | false => exact es_asg (t := .nm i) ((z2 fo σ _ hf).evD comp_list)
  · cases h
theorem gs_par {is : List Nat} {es : Es} {ows : List Bool} {fs : List Nat} {ts vs : List Expr} {k k2 : Nat} {pt pt2 pos : Pos} (G : GOk kL Γ n b) (I : InB b sc S) (hk : sc.kind = .function) (ht : chkNames b.N sc allFn is ts = true)
    (hw : (swp2 sc ts vs || (swp3 sc ts vs || swp0 sc ts vs)) = true) (hl : esLen es ≤ 1000) (hp : GP kL b S vs ows (evL Γ es)) : GS kL b S (.Assign [.Tuple ts k pt] (.Tuple vs k2 pt2) pos) (evS Γ N (.par is es ows fs)) := by
  obtain ⟨ta, p1, p2⟩ := hp
  rcases (Bool.or_eq_true _ _).mp hw with h | h
  · -- two names
    match ts, vs, is, h, ht, p1 with
    | [.Name x p, .Name y q], [a, c], [i, j], h, ht, p1 =>
      have ht' : (decide (b.N[i]? = some x) && (_ && (decide (b.N[j]? = some y) && (_ && true)))) = true := ht
      obtain ⟨t1, t2⟩ := and2 ht'
      obtain ⟨_, t3⟩ := and2 t2
      obtain ⟨t4, _⟩ := and2 t3
      have hi : b.N[i]? = some x := of_decide_eq_true t1
      have hj : b.N[j]? = some y := of_decide_eq_true t4
      refine ⟨tPar i j ta, fun v hv => ?_, fun fo F0 H0 σ ρ hf => ?_⟩
      · obtain ⟨w1, w2, w3, w4⟩ := swp2_of (k := k) (k2 := k2) (pt := pt) (pt2 := pt2) (I.sc v hv) hk h
        have hij : i ≠ j := fun z => by
          rw [z, hj] at hi
          exact w2 (Option.some.inj hi).symm
        have l1 : v.env.scope.names.lookup x = some .local := by rw [I.sc v hv]; exact w3
        have l2 : v.env.scope.names.lookup y = some .local := by rw [I.sc v hv]; exact w4
        exact ps_par (X := mk b v) rfl G.nd hi hj hij l1 l2 (p1 v hv) w1 rfl
      · refine es_parC (fun D σ vs H1 => ∃ v w, vs = [v, w] ∧ D.nx ((σ.set i (some v)).set j (some w)) H1) (fun _ _ => rfl) (p2 fo σ _ hf) (fun D ws H1 z1 _ z2 _ => ?_) hl
        match ws, z1, z2 with
        | [v, w], _, z2 => exact ⟨v, w, rfl, z2⟩
    | [.Name x p, .Name y q], [a, c], [], h, ht, p1 => cases ht
    | [.Name x p, .Name y q], [a, c], [_], h, ht, p1 =>
      have ht' : (_ && (_ && false)) = true := ht
      simp at ht'
    | [.Name x p, .Name y q], [a, c], _ :: _ :: _ :: _, h, ht, p1 =>
      have ht' : (_ && (_ && (_ && (_ && false)))) = true := ht
      simp at ht'
  · rcases (Bool.or_eq_true _ _).mp h with h | h
    · match ts, vs, is, h, ht, p1 with
      | [.Name x p, .Name y q, .Name z r], [a, c, d], [i, j, l], h, ht, p1 =>
        have ht' : (decide (b.N[i]? = some x) && (_ && (decide (b.N[j]? = some y) && (_ && (decide (b.N[l]? = some z) && (_ && true)))))) = true := ht
        obtain ⟨t1, t2⟩ := and2 ht'
        obtain ⟨_, t3⟩ := and2 t2
        obtain ⟨t4, t5⟩ := and2 t3
        obtain ⟨_, t6⟩ := and2 t5
        obtain ⟨t7, _⟩ := and2 t6
        have hi : b.N[i]? = some x := of_decide_eq_true t1
        have hj : b.N[j]? = some y := of_decide_eq_true t4
        have hm : b.N[l]? = some z := of_decide_eq_true t7
        refine ⟨tPar3 i j l ta, fun v hv => ?_, fun fo F0 H0 σ ρ hf => ?_⟩
        · obtain ⟨w1, ⟨w2, w3, w4⟩, w5, w6, w7⟩ := swp3_of (k := k) (k2 := k2) (pt := pt) (pt2 := pt2) (I.sc v hv) hk h
          have hij : i ≠ j := fun z => by
            rw [z, hj] at hi
            exact w2 (Option.some.inj hi).symm
          have hil : i ≠ l := fun z => by
            rw [z, hm] at hi
            exact w3 (Option.some.inj hi).symm
          have hjl : j ≠ l := fun z => by
            rw [z, hm] at hj
            exact w4 (Option.some.inj hj).symm
          have l1 : v.env.scope.names.lookup x = some .local := by rw [I.sc v hv]; exact w5
          have l2 : v.env.scope.names.lookup y = some .local := by rw [I.sc v hv]; exact w6
          have l3 : v.env.scope.names.lookup z = some .local := by rw [I.sc v hv]; exact w7
          exact ps_par3 (X := mk b v) rfl G.nd hi hj hm hij hil hjl l1 l2 l3 (p1 v hv) w1 rfl
        · refine es_parC (fun D σ vs H1 => ∃ u v w, vs = [u, v, w] ∧ D.nx (((σ.set i (some u)).set j (some v)).set l (some w)) H1) (fun _ _ => rfl) (p2 fo σ _ hf) (fun D ws H1 z1 _ z2 _ => ?_) hl
          match ws, z1, z2 with
          | [u, v, w], _, z2 => exact ⟨u, v, w, rfl, z2⟩
      | [.Name x p, .Name y q, .Name z r], [a, c, d], [], h, ht, p1 => cases ht
      | [.Name x p, .Name y q, .Name z r], [a, c, d], [_], h, ht, p1 =>
        have ht' : (_ && (_ && false)) = true := ht
        simp at ht'
      | [.Name x p, .Name y q, .Name z r], [a, c, d], [_, _], h, ht, p1 =>
        have ht' : (_ && (_ && (_ && (_ && false)))) = true := ht
        simp at ht'
      | [.Name x p, .Name y q, .Name z r], [a, c, d], _ :: _ :: _ :: _ :: _, h, ht, p1 =>
        have ht' : (_ && (_ && (_ && (_ && (_ && (_ && false)))))) = true := ht
        simp at ht'
    · have htt : chkTg b.N sc allFn (.tp is) (.Tuple ts k pt) = true := ht
      refine ⟨tAsg (tTup ta) (gOf b.K (.tp is)), fun v hv => ?_, fun fo F0 H0 σ ρ hf => ?_⟩
      · exact ps_asg (X := mk b v) (pe_tup (p1 v hv)) (tg_pg G.nd I.sc I.fn htt v hv) rfl (swp0_of (I.sc v hv) h) rfl
      · refine es_parC (fun D σ vs H1 => vs.length ≤ sizeLine ∧ ∀ p, H1 p = none → gTup b.K is.length (gNames is) (.ref p) σ (upd H1 p (.tup vs)) D.nx) (fun _ _ => rfl) (p2 fo σ _ hf) (fun D ws H1 z1 z0 _ z2 => ⟨z0, fun p hp => ?_⟩) hl
        exact ⟨p, ws, rfl, .inl (.inl upd_same), z1, gNames_run is ws σ z1.symm (z2 p _ hp)⟩
theorem seen_pe {v : Vr} {i : Nat} {x : Str} {p : Pos} (hs : v.env.scope = sc) (h : seenB b.N sc i x = true) : PE (mk b v) (.Name x p) (tVar i) := by
  obtain ⟨h1, h2⟩ := and2 h
  obtain ⟨h3, h4⟩ := and2 h2
  exact pe_var (of_decide_eq_true h1) (by show Vis v.env.scope x; rw [hs]; exact vis_of h3) (nm_of h4).1 (nm_of h4).2.1
theorem one_few {x : Expr} (hx : notStar x = true) (cp : Pos) (env : PySem.Env) : ((backTo cp (starEach [x] env)).all (fun x => !x.1) && (backToKw cp (keywordEach [] env)).all (fun x => x.1.isSome) && decide ([x].length + ([] : List Keyword).length + (if ([] : List Keyword).isEmpty then 0 else 1) < 30)) = true := by
  rw [star_of hx]
  rfl
theorem two_few {x y : Expr} (hx : notStar x = true) (hy : notStar y = true) (cp : Pos) (env : PySem.Env) : ((backTo cp (starEach [x, y] env)).all (fun x => !x.1) && (backToKw cp (keywordEach [] env)).all (fun x => x.1.isSome) && decide ([x, y].length + ([] : List Keyword).length + (if ([] : List Keyword).isEmpty then 0 else 1) < 30)) = true := by
  rw [star_of hx, star_of hy]
  rfl
theorem gs_app {i : Nat} {e : E} {fs : List Nat} {x : Str} {y : Expr} {p ap cp pos : Pos} (I : InB b sc S) (hi : seenB b.N sc i x = true) (hl : (ap.endLine == cp.line) = true) (hy : notStar y = true) (hx : GE kL b S y (evE Γ e)) :
    GS kL b S (.Expr (.Call (.Attribute (.Name x p) "append" ap) [y] [] cp) pos) (evS Γ N (.app i e fs)) := by
  obtain ⟨te, a1, a2⟩ := hx
  refine ⟨tDrop (tBM b.K "list" rAppend (tVar i) (tCons te tNil)), fun v hv => ?_, fun fo F0 H0 σ ρ hf => es_app (a2 fo σ _ hf)⟩
  exact ps_expr (pe_bm (X := mk b v) PySem.F.plainAttrs_list PySem.F.slot_list_append PySem.F.type_list_append mt_append (seen_pe (I.sc v hv) hi) (pa_cons (a1 v hv) pa_nil (star_of hy _ _)) rfl (one_few hy cp _) hl (star_of hy _ _) rfl) rfl
theorem gs_ext {i : Nat} {e : E} {fs : List Nat} {x : Str} {y : Expr} {p ap cp pos : Pos} (I : InB b sc S) (hi : seenB b.N sc i x = true) (hl : (ap.endLine == cp.line) = true) (hy : notStar y = true) (hx : GE kL b S y (evE Γ e)) :
    GS kL b S (.Expr (.Call (.Attribute (.Name x p) "extend" ap) [y] [] cp) pos) (evS Γ N (.ext i e fs)) := by
  obtain ⟨te, a1, a2⟩ := hx
  refine ⟨tDrop (tBM b.K "list" rExtend (tVar i) (tCons te tNil)), fun v hv => ?_, fun fo F0 H0 σ ρ hf => es_ext (a2 fo σ _ hf)⟩
  exact ps_expr (pe_bm (X := mk b v) PySem.F.plainAttrs_list PySem.F.slot_list_extend PySem.F.type_list_extend mt_extend (seen_pe (I.sc v hv) hi) (pa_cons (a1 v hv) pa_nil (star_of hy _ _)) rfl (one_few hy cp _) hl (star_of hy _ _) rfl) rfl
theorem gs_ins {i : Nat} {k e : E} {fs : List Nat} {x : Str} {y z : Expr} {p ap cp pos : Pos} (I : InB b sc S) (hi : seenB b.N sc i x = true) (hl : (ap.endLine == cp.line) = true) (hz : notStar z = true) (hy : notStar y = true) (hk : GE kL b S z (evE Γ k)) (hx : GE kL b S y (evE Γ e)) :
    GS kL b S (.Expr (.Call (.Attribute (.Name x p) "insert" ap) [z, y] [] cp) pos) (evS Γ N (.ins i k e fs)) := by
  obtain ⟨te, a1, a2⟩ := hx
  obtain ⟨tk, k1, k2⟩ := hk
  refine ⟨tDrop (tBM b.K "list" rIns (tVar i) (tCons tk (tCons te tNil))), fun v hv => ?_, fun fo F0 H0 σ ρ hf => es_ins (k2 fo σ _ hf) (a2 fo σ _ hf)⟩
  exact ps_expr (pe_bm (X := mk b v) PySem.F.plainAttrs_list PySem.F.slot_list_insert PySem.F.type_list_insert mt_insert (seen_pe (I.sc v hv) hi) (pa_cons (k1 v hv) (pa_cons (a1 v hv) pa_nil (star_of hy _ _)) (star_of hz _ _)) rfl (two_few hz hy cp _) hl (star_of hz _ _) (by rw [star_of hy]; rfl)) rfl
theorem gs_sto {i : Nat} {k e : E} {fs : List Nat} {x : Str} {y z : Expr} {p sp pos : Pos} (I : InB b sc S) (hi : seenB b.N sc i x = true) (hz : notSlice z = true) (hy : notComp y = true) (hk : GE kL b S z (evE Γ k)) (hx : GE kL b S y (evE Γ e)) :
    GS kL b S (.Assign [.Subscript (.Name x p) z sp] y pos) (evS Γ N (.sto i k e fs)) := by
  obtain ⟨te, a1, a2⟩ := hx
  obtain ⟨tk, k1, k2⟩ := hk
  refine ⟨tAsg te (gSub (tVar i) tk rSetL), fun v hv => ?_, fun fo F0 H0 σ ρ hf => es_sto (k2 fo σ _ hf) (a2 fo σ _ hf)⟩
  have hsw : swapsWithSole [.Subscript (.Name x p) z sp] y pos.line (mk b v).env = pure false := by
    show swapsWith y (some (.Subscript (.Name x p) z sp)) pos.line v.env = pure false
    exact sw_no hy _ _ _
  refine ps_asg (a1 v hv) (pg_sub (X := mk b v) (seen_pe (I.sc v hv) hi) (k1 v hv) set_list ?_) hsw rfl rfl
  intro w
  cases z <;> first | rfl | cases hz
theorem gs_fset {i : Nat} {k : Fk} {e : E} {x : Str} {y : Expr} {j : Nat} {p sp kp pos : Pos} (G : GOk kL Γ n b) (I : InB b sc S) (hi : seenB b.N sc i x = true) (hy : notComp y = true) (hx : GE kL b S y (evE Γ e)) :
    GS kL b S (.Assign [.Subscript (.Name x p) (.Constant (.str (fkName kL k)) j kp) sp] y pos) (evS Γ N (.fset i k e)) := by
  obtain ⟨te, a1, a2⟩ := hx
  refine ⟨sDPut (tVar i) (tC (.str (fkName kL k))) te, fun v hv => ?_, fun fo F0 H0 σ ρ hf => es_fset G.kl hf (a2 fo σ _ hf)⟩
  exact ps_dput (X := mk b v) (by have := G.room.units; show b.A.units + 1 < cLine; omega) (seen_pe (I.sc v hv) hi) pe_str (a1 v hv) (sw_no hy _ _ _)
end
/-! ### all statements -/
section
variable {kL : Str} {Γ : Gam} {n N : Nat} {b : B} {S : Vr → Prop} {sc : Scope}
mutual
theorem sS (G : GOk kL Γ n b) (I : InB b sc S) (hk : sc.kind = .function) : ∀ (m : Sm) (st : Stmt), chkS kL b.N sc m st = true → GS kL b S st (evS Γ N m)
  | .asg t e fs, st, h => by
    unfold chkS at h
    split at h
    · obtain ⟨h1, h2⟩ := and2 h
      obtain ⟨h3, h4⟩ := and2 h1
      obtain ⟨h5, h6⟩ := and2 h4
      exact gs_asg G I h3 h5 h6 (sE G e S sc _ I.sc h2)
    · cases h
  | .new i e fs, st, h => by
    unfold chkS at h
    split at h
    · obtain ⟨h1, h2⟩ := and2 h
      obtain ⟨h3, h4⟩ := and2 h1
      obtain ⟨h5, h6⟩ := and2 h4
      exact gs_new G I h3 h5 (sN G I.sc h6 h2)
    · cases h
  | .asc ow i elt t it c own fs, st, h => by
    unfold chkS at h
    split at h
    · obtain ⟨h1, h2⟩ := and2 h
      obtain ⟨h3, h4⟩ := and2 h1
      exact gs_asc G I hk (of_decide_eq_true h3) h4 h2
    · cases h
  | .par is es ows fs, st, h => by
    unfold chkS at h
    split at h
    · obtain ⟨h1, h2⟩ := and2 h
      obtain ⟨h3, h4⟩ := and2 h1
      obtain ⟨h5, h6⟩ := and2 h2
      obtain ⟨h7, h8⟩ := and2 h6
      exact gs_par G I hk h3 h4 (of_decide_eq_true h8) (sP G I.sc ows es _ h7 h5)
    · cases h
  | .exp e fs, st, h => by
    unfold chkS at h
    split at h
    · obtain ⟨h1, h2⟩ := and2 h
      obtain ⟨te, a1, a2⟩ := sE G e S sc _ I.sc h2
      refine ⟨tDrop te, fun v hv => ps_expr (a1 v hv) (sw_no h1 _ _ _), fun fo F0 H0 σ ρ hf => ?_⟩
      unfold evS
      exact es_exp (a2 fo σ _ hf)
    · cases h
  | .ret e fs, st, h => by
    unfold chkS at h
    split at h
    · obtain ⟨te, a1, a2⟩ := sE G e S sc _ I.sc h
      refine ⟨tRet te, fun v hv => ps_ret (a1 v hv), fun fo F0 H0 σ ρ hf => ?_⟩
      unfold evS
      exact es_ret (a2 fo σ _ hf)
    · cases h
  | .retN, st, h => by
    unfold chkS at h
    split at h
    · refine ⟨tRetN, fun v hv => ps_retN, fun fo F0 H0 σ ρ hf => ?_⟩
      unfold evS
      exact es_retN
    · cases h
  | .iff c fs x y, st, h => by
    unfold chkS at h
    split at h
    · obtain ⟨h1, h2⟩ := and2 h
      obtain ⟨h3, h4⟩ := and2 h1
      obtain ⟨h5, h6⟩ := and2 h2
      obtain ⟨tc, c1, c2⟩ := sT G c S sc _ I.sc h3 h4
      obtain ⟨ta, a1, a2⟩ := sSs G I hk x _ h5
      obtain ⟨tb, b1, b2⟩ := sSs G I hk y _ h6
      refine ⟨tIfS tc ta tb, fun v hv => ps_if (c1 v hv) (a1 v hv) (b1 v hv), fun fo F0 H0 σ ρ hf => ?_⟩
      unfold evS
      exact es_if (c2 fo σ _ hf) (a2 fo F0 H0 σ ρ hf) (b2 fo F0 H0 σ ρ hf)
    · cases h
  | .fr t it fs x, st, h => by
    unfold chkS at h
    split at h
    · obtain ⟨h1, h2⟩ := and2 h
      obtain ⟨h3, h4⟩ := and2 h1
      obtain ⟨h5, h6⟩ := and2 h2
      obtain ⟨wi, i1, i2⟩ := sI G it S sc _ _ I.sc h5
      obtain ⟨tb, b1, b2⟩ := sSs G I hk x _ h6
      refine ⟨tFor wi (gOf b.K t) tb, fun v hv => ps_for (X := mk b v) (I.own v hv) rfl (i1 v hv) (tg_pg G.nd I.sc I.fn h4 v hv) (b1 v hv) (set_of h3 _), fun fo F0 H0 σ ρ hf => ?_⟩
      unfold evS
      exact es_for (i2 fo σ _ hf) (fun σ ρ => b2 fo F0 H0 σ ρ hf)
    · cases h
  | .whl c fs x, st, h => by
    unfold chkS at h
    split at h
    · obtain ⟨h1, h2⟩ := and2 h
      obtain ⟨h3, h4⟩ := and2 h1
      obtain ⟨tc, c1, c2⟩ := sT G c S sc _ I.sc h3 h4
      obtain ⟨tb, b1, b2⟩ := sSs G I hk x _ h2
      refine ⟨tWhile tc tb, fun v hv => ps_while (X := mk b v) (I.own v hv) (c1 v hv) (b1 v hv), fun fo F0 H0 σ ρ hf => ?_⟩
      unfold evS
      exact es_while (fun σ ρ => c2 fo σ ρ hf) (fun σ ρ => b2 fo F0 H0 σ ρ hf)
    · cases h
  | .app i e fs, st, h => by
    unfold chkS at h
    split at h
    · obtain ⟨h1, h2⟩ := and2 h
      obtain ⟨h3, h4⟩ := and2 h1
      obtain ⟨h5, h6⟩ := and2 h4
      obtain ⟨h7, h8⟩ := and2 h6
      have e1 := of_decide_eq_true h5
      subst e1
      exact gs_app I h3 h7 h8 (sE G e S sc _ I.sc h2)
    · cases h
  | .ext i e fs, st, h => by
    unfold chkS at h
    split at h
    · obtain ⟨h1, h2⟩ := and2 h
      obtain ⟨h3, h4⟩ := and2 h1
      obtain ⟨h5, h6⟩ := and2 h4
      obtain ⟨h7, h8⟩ := and2 h6
      have e1 := of_decide_eq_true h5
      subst e1
      exact gs_ext I h3 h7 h8 (sE G e S sc _ I.sc h2)
    · cases h
  | .ins i k e fs, st, h => by
    unfold chkS at h
    split at h
    · obtain ⟨h1, h2⟩ := and2 h
      obtain ⟨h3, h4⟩ := and2 h1
      obtain ⟨h5, h6⟩ := and2 h4
      obtain ⟨h7, h8⟩ := and2 h6
      obtain ⟨h9, h10⟩ := and2 h8
      obtain ⟨h11, h12⟩ := and2 h2
      have e1 := of_decide_eq_true h5
      subst e1
      exact gs_ins I h3 h7 h9 h10 (sE G k S sc _ I.sc h11) (sE G e S sc _ I.sc h12)
    · cases h
  | .sto i k e fs, st, h => by
    unfold chkS at h
    split at h
    · obtain ⟨h1, h2⟩ := and2 h
      obtain ⟨h3, h4⟩ := and2 h1
      obtain ⟨h5, h6⟩ := and2 h4
      obtain ⟨h7, h8⟩ := and2 h2
      exact gs_sto I h3 h5 h6 (sE G k S sc _ I.sc h7) (sE G e S sc _ I.sc h8)
    · cases h
  | .fset i k e, st, h => by
    unfold chkS at h
    split at h
    · obtain ⟨h1, h2⟩ := and2 h
      obtain ⟨h3, h4⟩ := and2 h1
      obtain ⟨h5, h6⟩ := and2 h4
      have e1 := of_decide_eq_true h5
      subst e1
      exact gs_fset G I h3 h6 (sE G e S sc _ I.sc h2)
    · cases h
  | .brk, st, h => by
    unfold chkS at h
    split at h
    · refine ⟨tBreak, fun v hv => ps_break, fun fo F0 H0 σ ρ hf => ?_⟩
      unfold evS
      exact es_brk
    · cases h
  | .cnt, st, h => by
    unfold chkS at h
    split at h
    · refine ⟨tCont, fun v hv => ps_continue, fun fo F0 H0 σ ρ hf => ?_⟩
      unfold evS
      exact es_cnt
    · cases h
  | .pass, st, h => by
    unfold chkS at h
    split at h
    · refine ⟨tNext, fun v hv => ps_pass, fun fo F0 H0 σ ρ hf => ?_⟩
      unfold evS
      exact es_next rfl
    · refine ⟨tNext, fun v hv => ps_doc, fun fo F0 H0 σ ρ hf => ?_⟩
      unfold evS
      exact es_next rfl
    · cases h
  | .nev, st, h => ⟨tNever, fun v hv => ps_never, fun fo F0 H0 σ ρ hf F H s fl s' mt h => by
    unfold evS at h
    cases h⟩
theorem sSs (G : GOk kL Γ n b) (I : InB b sc S) (hk : sc.kind = .function) : ∀ (m : Ss) (l : List Stmt), chkSs kL b.N sc m l = true → GSs kL b S l (evSs Γ N m)
  | .nil, [], _ => ⟨tNext, fun v hv => pss_nil, fun fo F0 H0 σ ρ hf => es_nil⟩
  | .nil, _ :: _, h => by cases h
  | .cons _ _, [], h => by cases h
  | .cons m r, x :: xs, h => by
    have h' : (chkS kL b.N sc m x && chkSs kL b.N sc r xs) = true := h
    obtain ⟨h1, h2⟩ := and2 h'
    obtain ⟨ta, a1, a2⟩ := sS G I hk m x h1
    obtain ⟨tb, b1, b2⟩ := sSs G I hk r xs h2
    exact ⟨tSeq ta tb, fun v hv => pss_cons (a1 v hv) (b1 v hv), fun fo F0 H0 σ ρ hf => es_cons (a2 fo F0 H0 σ ρ hf) (fun σ ρ => b2 fo F0 H0 σ ρ hf)⟩
end
end
end Qv

namespace Qv
open PySem PySem.Spec PyProof.Rows L2
/-! ### what a text offers, whatever runs around it -/
structure Gm (kL : Str) (Γ : Gam) (n : Nat) (P : Program) (w : World) (K : PySem.W.Frag) (mg : Str → Option Value) (base : Heap) : Prop where
  kl : kL = "left" ∨ kL = "rest"
  blt : ∀ x ∈ bltNames, mg x = none
  con : ∀ x d, Γ.con x = some d → ∃ v u, mg x = some u ∧ RelV v u ∧ ∀ F, Dv K F v d
  tab : ∀ x kvs, Γ.tab x = some kvs → ∃ a es m, mg x = some (.ref a) ∧ KDict K w a es m ∧ ∀ z : Str, match looK z kvs with
    | some d => ∃ u v, PySem.W.nsIn K a z = some (some u) ∧ RelV v u ∧ ∀ F, Dv K F v d
    | none => PySem.W.nsIn K a z = some none
  fn : ∀ x m G, Γ.fn x m = some G → ∀ A N st, FnI kL ⟨P, w, K, mg, base, A, N, st⟩ n x m G
  fk : ∀ x ky m G, Γ.fk x ky m = some G → ∀ A N st, FnK kL ⟨P, w, K, mg, base, A, N, st⟩ n x ky m G
theorem Gm.ok {kL : Str} {Γ : Gam} {n : Nat} {P : Program} {w : World} {K : PySem.W.Frag} {mg : Str → Option Value} {base : Heap} {A : Around} {N : List Str} {st : List PySem.Env} (g : Gm kL Γ n P w K mg base) (room : Room n A) (gd : A.guards = some []) (nd : N.Nodup) :
    GOk kL Γ n ⟨P, w, K, mg, base, A, N, st⟩ := ⟨g.kl, room, gd, nd, g.blt, g.con, g.tab, fun x m G e => g.fn x m G e A N st, fun x ky m G e => g.fk x ky m G e A N st⟩
/-! ### a def by its own text -/
def spF (kL : Str) (K : PySem.W.Frag) (G : List C → M D) : Sp := fun vs H Q _ => spD kL K G vs H Q
theorem evF_some {Γ : Gam} {N n k : Nat} {ss : Ss} {cs : List C} {s s' : Fd} {d : D} (h : evF Γ N n k ss cs s = some (d, s')) : cs.length = n ∧ ∃ fl, evSs Γ N ss (cs ++ List.replicate (k - n) .emp) s = some (fl, s') ∧ (fl = .rt d ∨ (d = .none ∧ ∃ ρ, fl = .nx ρ)) := by
  unfold evF at h
  by_cases hl : cs.length = n
  · rw [if_pos hl] at h
    obtain ⟨fl, s1, e1, h1⟩ := mb_some h
    refine ⟨hl, fl, ?_⟩
    cases fl with
    | rt d0 =>
      obtain ⟨z1, z2⟩ := ret_some h1
      exact ⟨by rw [e1, z2], .inl (by rw [z1])⟩
    | nx ρ =>
      obtain ⟨z1, z2⟩ := ret_some h1
      exact ⟨by rw [e1, z2], .inr ⟨z1.symm, ρ, rfl⟩⟩
    | bk _ => cases h1
    | ct _ => cases h1
  · rw [if_neg hl] at h
    cases h
theorem paired_get {α β : Type} {R : α → β → Prop} : ∀ {xs : List α} {ys : List β} {i : Nat} {y : β}, Paired R xs ys → ys[i]? = some y → ∃ x, xs[i]? = some x ∧ R x y
  | _, _, _, _, .nil, e => by simp at e
  | _, _, 0, _, .cons h _, e => by simp at e; subst e; exact ⟨_, rfl, h⟩
  | _, _, i + 1, _, .cons _ h, e => by
    obtain ⟨x, h1, h2⟩ := paired_get (i := i) h (by simpa using e)
    exact ⟨x, by simpa using h1, h2⟩
theorem mt_start {K : PySem.W.Frag} {fo : Fo} {F H : Hp} {s : Fd} {vs : List V} {cs : List C} {N : List Str} (sb : Same F H) (f : FeedInv K fo F H s) (pr : Paired (CellV K fo F) vs cs) : Mt K fo F H F H (L2.start N vs) (cs ++ List.replicate (N.length - cs.length) .emp) s := by
  have hl := pr.length
  refine ⟨Gr.refl sb, ?_, fun i c e => ?_, fun i j ds es p hij hi => ?_, f⟩
  · unfold L2.start
    rw [List.length_append, List.length_append, List.length_map, List.length_replicate, List.length_replicate, hl]
  · by_cases hi : i < cs.length
    · rw [List.getElem?_append_left hi] at e
      obtain ⟨v, h1, h2⟩ := paired_get pr e
      have hs : (L2.start N vs)[i]? = some (some v) := by
        unfold L2.start
        rw [List.getElem?_append_left (by rw [List.length_map, hl]; exact hi), List.getElem?_map, h1]
        rfl
      rw [hs]
      cases c with
      | val d => exact ⟨v, rfl, h2⟩
      | feed =>
        obtain ⟨a, k, e1, e2⟩ := h2
        exact ⟨a, k, e1, by rw [e2]⟩
      | emp => trivial
      | own _ => cases h2
    · rw [List.getElem?_append_right (by omega)] at e
      obtain ⟨_, e2⟩ := List.getElem?_eq_some_iff.mp e
      rw [List.getElem_replicate] at e2
      subst e2
      trivial
  · exfalso
    by_cases hl' : i < cs.length
    · rw [List.getElem?_append_left hl'] at hi
      obtain ⟨v, _, h2⟩ := paired_get pr hi
      cases h2
    · rw [List.getElem?_append_right (by omega)] at hi
      obtain ⟨_, e2⟩ := List.getElem?_eq_some_iff.mp hi
      rw [List.getElem_replicate] at e2
      cases e2
section
variable {kL : Str} {Γ : Gam} {k Nf : Nat} {P : Program} {w : World} {K : PySem.W.Frag} {mg : Str → Option Value} {base : Heap} {f : Addr} {fd : FuncData} {ps N : List Str} {x qual : Str} {params : Arguments} {body : List Stmt} {scope : Scope} {dvs : List V} {kws : List (Str × V)} {ss : Ss}
theorem fnOf (D : FunD K x qual params body scope dvs kws f fd) (S : FnScope N ps scope) (g : Gm kL Γ k P w K mg base) (hc : chkSs kL N scope ss body = true) : FnG P w K mg base CX0 (k + 1) f fd ps (spF kL K (evF Γ Nf ps.length N.length ss)) := by
  refine FnG.of D S (fun vs H Q E q => ?_) (fun cd A out s H vs Q E room gd q => ?_)
  · obtain ⟨fo, F, s, cs, d, s', _, _, _, pr, h, _⟩ := q
    exact pr.length.trans (evF_some h).1
  · obtain ⟨fo, F, s0, cs, d, s', hf, sb, fi, pr, h, q⟩ := q
    obtain ⟨hl, fl, he, hd⟩ := evF_some h
    let env := envOfC qual scope s.heap.objs.size f cd
    let b : B := ⟨P, w, K, mg, base, A.deeper env, N, env :: out⟩
    let v : Vr := ⟨s, H, env, out, [], allFn, [], fun e s' => wpAny (model P w) (A.deeper env) (leaving env e) (fun _ s'' => CX0 out H s E e s'') (fun e' s'' => CX0 out H s E e' s'') s'⟩
    have G : GOk kL Γ k b := g.ok room gd S.nd
    have I : InB b scope (fun u => u = v) := ⟨fun u hu => by rw [hu]; rfl, fun u hu => by rw [hu], fun u hu => by rw [hu]; exact PassesOwn.leaving⟩
    obtain ⟨t, t1, t2⟩ := sSs (N := Nf) G I S.kind ss body hc
    refine ⟨t, t1 v rfl, ?_⟩
    refine t2 fo F H _ _ hf F H s0 fl s' (mt_start sb fi pr) (by rw [hl]; exact he) _ ?_
    rcases hd with rfl | ⟨rfl, ρ, rfl⟩
    · exact fun v F' H' g f dv => q v F' H' g f dv
    · exact fun σ' F' H' _ mt => q .non F' H' mt.gr mt.feed .non
/-- called with all its arguments -/
theorem FnI.all {G : List C → M D} {A : Around} {NN : List Str} {st : List PySem.Env} {n m : Nat} (hm : mg x = some (.ref f)) (hk : PySem.W.keepIn K (.ref f) = true) (F : FnG P w K mg base CX0 n f fd ps (spF kL K G)) (hb : Binds K fd ps []) :
    FnI kL ⟨P, w, K, mg, base, A, NN, st⟩ n x m G := ⟨f, fd, ps, _, [], [], hm, hk, F, hb, .nil, fun vs H Q _ q => by
  rw [List.append_nil]
  exact q⟩
/-- called with defaults behind -/
theorem FnI.dfl {G : List C → M D} {A : Around} {NN : List Str} {st : List PySem.Env} {n m : Nat} {zs : List V} {ds : List Value} {es : List D} (hm : mg x = some (.ref f)) (hk : PySem.W.keepIn K (.ref f) = true) (F : FnG P w K mg base CX0 n f fd ps (spF kL K G)) (hb : Binds K fd ps ds)
    (hv : Vals zs ds) (hd : ∀ F, DvAll K F zs es) : FnI kL ⟨P, w, K, mg, base, A, NN, st⟩ n x m (fun cs => G (cs ++ es.map .val)) := ⟨f, fd, ps, _, zs, ds, hm, hk, F, hb, hv, fun vs H Q _ q => by
  obtain ⟨fo, F, s, cs, d, s', h1, h2, h3, h4, h5, h6⟩ := q
  refine ⟨fo, F, s, cs ++ es.map .val, d, s', h1, h2, h3, paired_app h4 ?_, h5, h6⟩
  have : ∀ {zs : List V} {es : List D}, DvAll K F zs es → Paired (CellV K fo F) zs (es.map .val) := fun {zs es} h => by
    induction zs generalizing es with
    | nil => cases h; exact .nil
    | cons z zs ih =>
      cases h with
      | cons h1 h2 => exact .cons h1 (ih h2)
  exact this (hd F)⟩
end
end Qv

namespace Qv
open PySem PySem.Spec PyProof.Rows L2
/-! ### the feed is made -/
def feedB (kL x : Str) (sc : Scope) : List Stmt → Bool
  | [.Return (some (.Dict [some (.Constant (.str a) _ _), some (.Constant (.str b) _ _), some (.Constant (.str c) _ _), some (.Constant (.str d) _ _)]
      [.Call (.Name l _) [.Subscript (.Name y _) (.Slice none (some (.Constant (.int m) _ _)) none _) _] [] _, .Constant (.int i) _ _, .Constant (.int j) _ _, .Constant (.int k) _ _] _)) _] =>
    (decide (a = ("cells" : Str)) && (decide (b = ("spot" : Str)) && (decide (c = kL) && decide (d = ("turn" : Str))))) && ((decide (l = ("list" : Str)) && (glB sc l && (decide (y = x) && (visB sc x && nmOk x)))) && (decide (m = 63) && (decide (i = 0) && (decide (j = 0) && decide (k = 0)))))
  | _ => false
def feedAt (kL : Str) (c : Addr) : HO := .dK [(.inr ("cells" : Str), .ref c), (.inr ("spot" : Str), .int 0), (.inr kL, .int 0), (.inr ("turn" : Str), .int 0)]
def spFeed (kL : Str) (K : PySem.W.Frag) : Sp := fun vs H Q _ => ∃ (a : Addr) (ns : List Int), vs = [.ref a] ∧ SqL K H a (ns.map V.int) ∧
  ∀ (f c : Addr) (H' : Hp), f ≠ c → H' f = some (feedAt kL c) → H' c = some (.lst ((ns.take 63).map V.int)) → Q (.ref f) H'
theorem cut63 (ns : List Int) : cutV (ns.map V.int) none (some 63) = (ns.take 63).map V.int := by
  unfold cutV
  rw [HT.sIx_none]
  show ((ns.map V.int).drop 0).take (HT.sIx (ns.map V.int).length (ns.map V.int).length (some ((63 : Nat) : Int)) - 0) = _
  rw [HT.sIx_nat, List.drop_zero, Nat.sub_zero, List.map_take]
  apply List.ext_getElem?
  intro i
  rw [List.getElem?_take, List.getElem?_take]
  by_cases h1 : i < 63
  · by_cases h2 : i < (ns.map V.int).length
    · rw [if_pos (by omega), if_pos h1]
    · rw [if_neg (by omega), if_pos h1, List.getElem?_eq_none (by omega)]
  · rw [if_neg (by omega), if_neg h1]
theorem merge4 {kL : Str} (hk : kL = "left" ∨ kL = "rest") (c : V) : mergeK [] [(.inr ("cells" : Str), c), (.inr ("spot" : Str), .int 0), (.inr kL, .int 0), (.inr ("turn" : Str), .int 0)] = [(.inr ("cells" : Str), c), (.inr ("spot" : Str), .int 0), (.inr kL, .int 0), (.inr ("turn" : Str), .int 0)] := by
  have n1 : (Sum.inr ("cells" : Str) : Key) ≠ Sum.inr ("spot" : Str) := ne_inr (by decide +kernel)
  have n2 : (Sum.inr ("cells" : Str) : Key) ≠ Sum.inr ("turn" : Str) := ne_inr (by decide +kernel)
  have n3 : (Sum.inr ("spot" : Str) : Key) ≠ Sum.inr ("turn" : Str) := ne_inr (by decide +kernel)
  have n4 : (Sum.inr ("cells" : Str) : Key) ≠ Sum.inr kL := by rcases hk with rfl | rfl <;> exact ne_inr (by decide +kernel)
  have n5 : (Sum.inr ("spot" : Str) : Key) ≠ Sum.inr kL := by rcases hk with rfl | rfl <;> exact ne_inr (by decide +kernel)
  have n6 : (Sum.inr kL : Key) ≠ Sum.inr ("turn" : Str) := by rcases hk with rfl | rfl <;> exact ne_inr (by decide +kernel)
  simp only [mergeK, List.foldl_cons, List.foldl_nil, putK, List.any_cons, List.any_nil, List.nil_append, List.cons_append, n1, n2, n3, n4, n5, n6, if_false, decide_false, Bool.or_false, Bool.false_eq_true]
section
variable {kL : Str} {Γ : Gam} {k Nf : Nat} {P : Program} {w : World} {K : PySem.W.Frag} {mg : Str → Option Value} {base : Heap} {f : Addr} {fd : FuncData} {ps N : List Str} {x y qual : Str} {params : Arguments} {body : List Stmt} {scope : Scope} {dvs : List V} {kws : List (Str × V)} {ss : Ss}
theorem feedOf (D : FunD K y qual params body scope dvs kws f fd) (S : FnScope [x] [x] scope) (hk : kL = "left" ∨ kL = "rest") (hl : mg "list" = none) (hc : feedB kL x scope body = true) : FnG P w K mg base CX0 (k + 1) f fd [x] (spFeed kL K) := by
  refine FnG.of D S (fun vs H Q E q => ?_) (fun cd A out s H vs Q E room gd q => ?_)
  · obtain ⟨a, ns, rfl, _⟩ := q
    rfl
  · obtain ⟨a, ns, rfl, hS, q⟩ := q
    unfold feedB at hc
    split at hc
    · obtain ⟨c1, c2⟩ := and2 hc
      obtain ⟨d1, c3⟩ := and2 c1
      obtain ⟨d2, c4⟩ := and2 c3
      obtain ⟨d3, d4⟩ := and2 c4
      obtain ⟨c5, c6⟩ := and2 c2
      obtain ⟨d5, c7⟩ := and2 c5
      obtain ⟨d6, c8⟩ := and2 c7
      obtain ⟨d7, c9⟩ := and2 c8
      obtain ⟨d8, d9⟩ := and2 c9
      obtain ⟨d10, c10⟩ := and2 c6
      obtain ⟨d11, c11⟩ := and2 c10
      obtain ⟨d12, d13⟩ := and2 c11
      cases of_decide_eq_true d1
      cases of_decide_eq_true d2
      have e3 := of_decide_eq_true d3
      subst e3
      cases of_decide_eq_true d4
      cases of_decide_eq_true d5
      have e7 := of_decide_eq_true d7
      subst e7
      cases of_decide_eq_true d10
      cases of_decide_eq_true d11
      cases of_decide_eq_true d12
      cases of_decide_eq_true d13
      refine ⟨_, pss_one (ps_ret (pe_disp (pps_cons pe_str (pe_callTy call_list_of (x := "list") (gl_of d6) hl (by decide +kernel) (pa_cons (pe_slice sl_list (pe_var (i := 0) rfl (vis_of d8) (nm_of d9).1 (nm_of d9).2.1) po_none (po_some pe_int)) pa_nil rfl) (by decide +kernel) (by decide +kernel) rfl rfl)
        (pps_cons pe_str pe_int (pps_cons pe_str pe_int (pps_cons pe_str pe_int pps_nil)))) rfl rfl (by simp) (by show 4 ≤ 15; decide))), ?_⟩
      intro p hp
      refine ⟨.ref a, rfl, 63, rfl, a, ns.map V.int, rfl, ?_, fun p2 hp2 => ⟨p2, _, rfl, .inl (.inl (.inl upd_same)), fun p3 hp3 => ?_⟩⟩
      · rcases hS with h | h
        · refine .inl ?_
          rcases h with h | ⟨o, h⟩
          · exact .inl (by rw [upd_ne (ne_of_none h hp)]; exact h)
          · exact .inr ⟨o, by rw [upd_ne (ne_of_none h hp)]; exact h⟩
        · exact .inr h
      · have n1 : p ≠ p2 := fun z => by
          rw [← z, upd_same] at hp2
          cases hp2
        have n2 : p ≠ p3 := fun z => by
          rw [← z, upd_ne n1, upd_same] at hp3
          cases hp3
        refine ⟨by rw [upd_ne n2, upd_ne n1, upd_same], [(.inr ("cells" : Str), .ref p3), (.inr ("spot" : Str), .int 0), (.inr _, .int 0), (.inr ("turn" : Str), .int 0)], rfl, by show 4 ≤ 15; decide, ?_⟩
        refine q p p3 _ n2 ?_ ?_
        · rw [upd_same, merge4 hk]
          rfl
        · rw [upd_ne n2.symm, upd_same, cut63]
    · cases hc
end
end Qv

namespace Qv
open PySem PySem.Spec PyProof.Rows L2
/-! ### the law's own def -/
def lawB (kL lf x : Str) (N : List Str) (sc : Scope) (ss : Ss) : List Stmt → Bool
  | .Assign [.Name y py] (.Call (.Name l _) [.Name z _] [] _) _ :: rest => ((decide (N[1]? = some y) && nmTg sc (.Name y py)) && (decide (l = lf) && (glB sc l && (nmOk l && decide (z = x))))) && (seenB N sc 0 x && chkSs kL N sc ss rest)
  | _ => false
def spLaw (kL : Str) (K : PySem.W.Frag) (Γ : Gam) (Nf n : Nat) (ss : Ss) : Sp := fun vs H Q _ => ∃ (a : Addr) (ns : List Int), vs = [.ref a] ∧ SqL K H a (ns.map V.int) ∧
  (∃ s', evSs Γ Nf ss (.emp :: .feed :: List.replicate (n - 2) .emp) ⟨ns.take 63, 0, 0, 0⟩ = some (.rt (.bool true), s')) ∧ ∀ H', Q (.bl true) H'
section
variable {kL : Str} {Γ : Gam} {k Nf : Nat} {P : Program} {w : World} {K : PySem.W.Frag} {mg : Str → Option Value} {base : Heap} {f ff : Addr} {fd fdf : FuncData} {N : List Str} {x xf y lf qual : Str} {params : Arguments} {body : List Stmt} {scope : Scope} {dvs : List V} {kws : List (Str × V)} {ss : Ss}
theorem lawOf (D : FunD K y qual params body scope dvs kws f fd) (S : FnScope N [x] scope) (hN : 2 ≤ N.length) (g : Gm kL Γ k P w K mg base) (hm : mg lf = some (.ref ff)) (hkp : PySem.W.keepIn K (.ref ff) = true) (F : FnG P w K mg base CX0 k ff fdf [xf] (spFeed kL K)) (hb : Binds K fdf [xf] [])
    (hc : lawB kL lf x N scope ss body = true) : FnG P w K mg base CX0 (k + 1) f fd [x] (spLaw kL K Γ Nf N.length ss) := by
  refine FnG.of D S (fun vs H Q E q => ?_) (fun cd A out s H vs Q E room gd q => ?_)
  · obtain ⟨a, ns, rfl, _⟩ := q
    rfl
  · obtain ⟨a, ns, rfl, hS, ⟨s', he⟩, q⟩ := q
    unfold lawB at hc
    split at hc
    · rename_i y0 py l0 pl z0 pz pc ps rest
      obtain ⟨c1, c2⟩ := and2 hc
      obtain ⟨c3, c4⟩ := and2 c1
      obtain ⟨d1, d2⟩ := and2 c3
      obtain ⟨d3, c5⟩ := and2 c4
      obtain ⟨d4, c6⟩ := and2 c5
      obtain ⟨d5, d6⟩ := and2 c6
      obtain ⟨d7, d8⟩ := and2 c2
      have e3 := of_decide_eq_true d3
      subst e3
      have e6 := of_decide_eq_true d6
      subst e6
      let env := envOfC qual scope s.heap.objs.size f cd
      let b : B := ⟨P, w, K, mg, base, A.deeper env, N, env :: out⟩
      let v : Vr := ⟨s, H, env, out, [], allFn, [], fun e s' => wpAny (model P w) (A.deeper env) (leaving env e) (fun _ s'' => CX0 out H s E e s'') (fun e' s'' => CX0 out H s E e' s'') s'⟩
      have G : GOk kL Γ k b := g.ok room gd S.nd
      have I : InB b scope (fun u => u = v) := ⟨fun u hu => by rw [hu]; rfl, fun u hu => by rw [hu], fun u hu => by rw [hu]; exact PassesOwn.leaving⟩
      obtain ⟨t, t1, t2⟩ := sSs (N := Nf) G I S.kind ss rest d8
      have hl : Loc (mk b v).env.scope y0 := .inl (nmTg_of d2)
      have p1 : PS (mk b v) (.Assign [.Name y0 py] (.Call (.Name l0 pl) [.Name z0 pz] [] pc) ps) (tAsg (tCall (spFeed kL K) [] E0 (tCons (tVar 0) tNil)) (gName 1)) :=
        ps_set (X := mk b v) (i := 1) S.nd (of_decide_eq_true d1) hl (pe_callG (X := mk b v) F room gd (gl_of d4) hm hkp hb .nil pass0 (pa_cons (seen_pe rfl d7) pa_nil rfl) (nm_of d5).1 rfl rfl) rfl (.inl rfl)
      refine ⟨_, pss_cons p1 (t1 v rfl), ?_⟩
      refine ⟨.ref a, rfl, a, ns, rfl, hS, fun f c H' hne hf hcc => ?_⟩
      let F1 : Hp := fun b => if b = c then some (.lst ((ns.take 63).map V.int)) else none
      have sb : Same F1 H' := fun b o e => by
        by_cases hb : b = c
        · have e' : some (HO.lst ((ns.take 63).map V.int)) = some o := (if_pos hb).symm.trans e
          rw [hb, hcc]
          exact e'
        · have e' : none = some o := (if_neg hb).symm.trans e
          cases e'
      have fi : FeedInv K (some (f, kL)) F1 H' ⟨ns.take 63, 0, 0, 0⟩ := ⟨if_neg hne, c, hf, if_pos rfl⟩
      have mt : Mt K (some (f, kL)) F1 H' F1 H' ((L2.start N [.ref a]).set 1 (some (.ref f))) (.emp :: .feed :: List.replicate (N.length - 2) .emp) ⟨ns.take 63, 0, 0, 0⟩ := by
        refine ⟨Gr.refl sb, ?_, fun i c0 e => ?_, fun i j ds es p _ hi => ?_, fi⟩
        · unfold L2.start
          simp only [List.length_set, List.length_append, List.length_map, List.length_cons, List.length_nil, List.length_replicate]
          omega
        · match i, e with
          | 0, e =>
            cases e
            trivial
          | 1, e =>
            cases e
            refine ⟨f, kL, rfl, List.getElem?_set_self ?_⟩
            unfold L2.start
            simp only [List.length_append, List.length_map, List.length_cons, List.length_nil, List.length_replicate]
            omega
          | i + 2, e =>
            have e1 : (List.replicate (N.length - 2) C.emp)[i]? = some c0 := e
            obtain ⟨_, e2⟩ := List.getElem?_eq_some_iff.mp e1
            rw [List.getElem_replicate] at e2
            subst e2
            trivial
        · exfalso
          match i, hi with
          | 0, hi => cases hi
          | 1, hi => cases hi
          | i + 2, hi =>
            have e1 : (List.replicate (N.length - 2) C.emp)[i]? = some (.own ds) := hi
            obtain ⟨_, e2⟩ := List.getElem?_eq_some_iff.mp e1
            rw [List.getElem_replicate] at e2
            cases e2
      refine t2 (some (f, kL)) F1 H' _ _ (fun f' k' z => by cases z; rfl) F1 H' _ _ s' mt he _ fun v F' H2 _ _ dv => ?_
      cases dv
      exact q H2
    · cases hc
end
/-! ### the law is called -/
theorem lawEnd {P : Program} {w : World} {K : PySem.W.Frag} {mg mb : Str → Option Value} {k : Nat} {fa a : Addr} {fd : FuncData} {x : Str} {sp : Sp} {s : Shared} {vs : List Value} {ns : List Int} (kin : K.In s.heap) (hmod : s.heap.Ns mainGlobals mg) (hblt : s.heap.Ns builtinsNs mb)
    (hbb : ∀ x : Str, x ≠ "__name__" → mb x = bootBuiltins x) (hlim : s.heap.NoLimit) (hgen : s.gens = #[]) (scr : s.heap.get? a = some { cls := .type "list", data := .seq vs.toArray }) (hit : IntsAre vs ns) (few : ns.length ≤ sizeLine) (room : Room k callerA)
    (F : ∀ base : Heap, K.In base → base.Ns mainGlobals mg → FnG P w K mg base CX0 k fa fd [x] sp) (bt : ∀ (s : Shared) (u : Value), BindsTo s fd ⟨[u], []⟩ [(x, u)]) (hsp : ∀ H : Hp, SqL K H a (ns.map V.int) → sp [.ref a] H (fun v _ => v = .bl true) E0) :
    codeAny (model P w) callerA (.call (.ref fa) ⟨[.ref a], []⟩) (fun r s' => r = .ok (.ret (.bool true)) ∧ OldK s.heap s'.heap ∧ s'.os = s.os ∧ AllBare s'.gens) s := by
  have vals := vals_ints hit
  have lens := hit.length
  have go : ∀ H : Hp, Only H → SqL K H a (ns.map V.int) → HOk P w H s.heap → (∀ c, H c ≠ none → c = a) → (H a ≠ none → K.lookup a = none) →
      codeAny (model P w) callerA (.call (.ref fa) ⟨[.ref a], []⟩) (fun r s' => r = .ok (.ret (.bool true)) ∧ OldK s.heap s'.heap ∧ s'.os = s.os ∧ AllBare s'.gens) s := by
    intro H only sq ok alone apart
    have free : ∀ {c : Addr} {o : Obj} {es : Array DictEntry} {ep : Nat}, s.heap.get? c = some o → o.data = .dict es ep → H c = none := fun {c o es ep} e d => by
      by_cases hc : H c = none
      · exact hc
      · have e1 := alone c hc
        rw [e1, scr] at e
        cases e
        cases (show Data.seq vs.toArray _ = Data.dict es ep from d)
    have ns' : ∀ {c : Addr} {m : Str → Option Value}, s.heap.Ns c m → (hidT s.heap H).Ns c m := fun {c m} z => by
      obtain ⟨o, es, ep, e, d, r⟩ := z
      exact ⟨o, es, ep, hidT_get e (free e d), d, r⟩
    have kin' : K.In (hidT s.heap H) := fun c o e => hidT_get (kin c o e) (by
      by_cases hc : H c = none
      · exact hc
      · have e1 := alone c hc
        subst e1
        rw [apart hc] at e
        cases e)
    obtain ⟨mc, lim1, lim2⟩ := hlim
    have m0 : Mod K mg (hidT s.heap H) := ⟨kin', ns' hmod, ⟨mb, ns' hblt, hbb⟩, ⟨mc, ns' lim1, lim2⟩⟩
    have env0 : Env0 P w K mg (hidT s.heap H) callerA [] s H := by
      refine ⟨rfl, m0, fun c o e => of_hidT e, Nat.le_of_eq (hidT_size _ _), trivial, fun c hc => ?_, ok, .of_eq hgen⟩
      exact absurd (show c ∈ ([] : List Addr) from hc) (by simp)
    have call := (F _ kin' (ns' hmod)).run callerA [] s H ⟨[.ref a], []⟩ [.ref a] [.ref a] _ _ room rfl env0 (bt s (.ref a)) (.cons rfl .nil) (hsp H sq)
    refine codeAny_mono call fun r s' hr => ?_
    cases r with
    | error e => exact hr.elim
    | ok fl =>
      cases fl with
      | ret u =>
        obtain ⟨v, H', e1, e2, e3, e4, e5, e6⟩ := hr
        have e7 : v = .bl true := e6
        subst e7
        obtain rfl : u = Value.bool true := e5
        refine ⟨rfl, OldK.of_keep fun c o e => ?_, e1, e2⟩
        rcases only c with hc | ⟨oc, xs, hc⟩
        · exact e3.keep c o e hc (fun z => absurd (show c ∈ ([] : List Addr) from z) (by simp)) (by simp)
        · obtain ⟨z1, _⟩ := ok c _ hc
          obtain ⟨z2, _⟩ := e4 c _ (e3.frzs c oc _ hc)
          rw [e] at z1
          cases z1
          exact z2
      | next => exact hr.elim
      | brk => exact hr.elim
      | cont => exact hr.elim
  cases hk : K.lookup a with
  | none =>
    let one : Hp := fun c => if c = a then some (.frz { cls := .type "list", data := .seq vs.toArray } (.lst (ns.map V.int))) else none
    have at_ : one a = some (.frz { cls := .type "list", data := .seq vs.toArray } (.lst (ns.map V.int))) := if_pos rfl
    have off : ∀ c, c ≠ a → one c = none := fun c hc => if_neg hc
    refine go one (fun c => ?_) (.inl (.inr ⟨_, at_⟩)) (fun c u z => ?_) (fun c z => ?_) fun _ => hk
    · by_cases hc : c = a
      · rw [hc]
        exact .inr ⟨_, _, at_⟩
      · exact .inl (off c hc)
    · by_cases hc : c = a
      · subst hc
        rw [at_] at z
        cases z
        exact ⟨scr, by rw [List.length_map]; exact few, vs, _, vals, scr⟩
      · rw [off c hc] at z
        cases z
    · by_cases hc : c = a
      · exact hc
      · exact absurd (off c hc) z
  | some o =>
    have e := kin a o hk
    rw [scr] at e
    cases e
    have sq : SqL K (fun _ => none) a (ns.map V.int) := .inr ⟨_, vs.toArray, _, hk, rfl, rfl, rfl, by rw [List.size_toArray, lens]; exact few, by simpa using vals⟩
    exact go (fun _ => none) (fun _ => .inl rfl) sq (fun c u z => nomatch z) (fun c z => absurd rfl z) fun z => absurd rfl z
theorem lawWalk {l : PySem.W.OpenLaw} {n k : Nat} {q : Program} {loose : List Str} {XP : (Str → Option Value) → Heap → Prop} {YP : World → Heap → Prop} {d : DefRec} {x : Str} (hn : l.most = some n) (hn2 : n ≤ sizeLine) (hdf : d.params.defaults = []) (room : Room k callerA)
    (F : ∀ (w : World) (mg : Str → Option Value) (fa : Addr) (h : Heap), YP w h → h.Ns mainGlobals mg → mg d.name = some (.ref fa) → ∃ (K : PySem.W.Frag) (fd : FuncData) (sp : Sp), K.In h ∧ (∀ (s : Shared) (u : Value), BindsTo s fd ⟨[u], []⟩ [(x, u)]) ∧
      (∀ (H : Hp) (a : Addr) (ns : List Int), ns.length ≤ n → SqL K H a (ns.map V.int) → sp [.ref a] H (fun v _ => v = .bl true) E0) ∧ ∀ base : Heap, K.In base → base.Ns mainGlobals mg → FnG l.prog w K mg base CX0 k fa fd [x] sp) :
    PySem.W.WalkO q loose XP YP l.row.toRowW d [] (fun f vs => PySem.call f vs) := by
  refine Att.attach_call hn hdf fun w s0 s1 mg mb fa o pm cd doc a vs ns G Y ho hd hcd hmg scr hit few hgen => ?_
  obtain ⟨K, fd, sp, kin, bt, hsp, hF⟩ := F w mg fa _ Y G.T.g hmg
  exact lawEnd kin G.T.g G.T.b G.T.builtins G.T.nolimit hgen scr hit (Nat.le_trans few hn2) room hF bt fun H sq => hsp H a ns few sq
end Qv

namespace Qv
open PySem PySem.Spec PyProof.Rows L2
/-! ### one def more -/
def Gam.add (Γ : Gam) (x : Str) (m : Nat) (G : List C → M D) : Gam := { Γ with fn := fun y j => if y = x ∧ j = m then some G else Γ.fn y j }
def Gam.addK (Γ : Gam) (x ky : Str) (m : Nat) (G : List C → M D) : Gam := { Γ with fk := fun y k j => if y = x ∧ k = ky ∧ j = m then some G else Γ.fk y k j }
section
variable {kL : Str} {Γ : Gam} {n n' : Nat} {P : Program} {w : World} {K : PySem.W.Frag} {mg : Str → Option Value} {base : Heap} {b : B} {x ky : Str} {m : Nat} {G : List C → M D}
theorem FnI.mono (h : FnI kL b n x m G) (hn : n ≤ n') : FnI kL b n' x m G := by
  obtain ⟨f, fd, ps, sp, dvs, ds, h1, h2, h3, h4⟩ := h
  exact ⟨f, fd, ps, sp, dvs, ds, h1, h2, h3.mono hn, h4⟩
theorem FnK.mono (h : FnK kL b n x ky m G) (hn : n ≤ n') : FnK kL b n' x ky m G := by
  obtain ⟨f, fd, ps, sp, g, gV, h1, h2, h3, h4⟩ := h
  exact ⟨f, fd, ps, sp, g, gV, h1, h2, h3.mono hn, h4⟩
theorem Gm.mono (g : Gm kL Γ n P w K mg base) (hn : n ≤ n') : Gm kL Γ n' P w K mg base := ⟨g.kl, g.blt, g.con, g.tab, fun x m G e A N st => (g.fn x m G e A N st).mono hn, fun x ky m G e A N st => (g.fk x ky m G e A N st).mono hn⟩
theorem Gm.add (g : Gm kL Γ n P w K mg base) (h : ∀ A N st, FnI kL ⟨P, w, K, mg, base, A, N, st⟩ n x m G) : Gm kL (Γ.add x m G) n P w K mg base :=
  ⟨g.kl, g.blt, g.con, g.tab, fun y j G' e A N st => by
    have e : (if y = x ∧ j = m then some G else Γ.fn y j) = some G' := e
    by_cases hc : y = x ∧ j = m
    · rw [if_pos hc] at e
      cases e
      obtain ⟨rfl, rfl⟩ := hc
      exact h A N st
    · rw [if_neg hc] at e
      exact g.fn y j G' e A N st, g.fk⟩
theorem Gm.addK (g : Gm kL Γ n P w K mg base) (h : ∀ A N st, FnK kL ⟨P, w, K, mg, base, A, N, st⟩ n x ky m G) : Gm kL (Γ.addK x ky m G) n P w K mg base :=
  ⟨g.kl, g.blt, g.con, g.tab, g.fn, fun y k j G' e A N st => by
    have e : (if y = x ∧ k = ky ∧ j = m then some G else Γ.fk y k j) = some G' := e
    by_cases hc : y = x ∧ k = ky ∧ j = m
    · rw [if_pos hc] at e
      cases e
      obtain ⟨rfl, rfl, rfl⟩ := hc
      exact h A N st
    · rw [if_neg hc] at e
      exact g.fk y k j G' e A N st⟩
theorem FnK.last {f : Addr} {fd : FuncData} {ps : List Str} {A : Around} {NN : List Str} {st : List PySem.Env} {g : List Value → List Value → List Value} {gV : List V → List V → List V} (hm : mg x = some (.ref f)) (hk : PySem.W.keepIn K (.ref f) = true) (F : FnG P w K mg base CX0 n f fd ps (spF kL K G))
    (hb : KBn K fd ps m [ky] g gV) (hg : ∀ vs z, vs.length = m → gV vs [z] = vs ++ [z]) : FnK kL ⟨P, w, K, mg, base, A, NN, st⟩ n x ky m G := ⟨f, fd, ps, _, g, gV, hm, hk, F, hb, fun vs z H Q hl q => by
  rw [hg vs z hl]
  exact q⟩
end
end Qv

namespace Qv
open PySem PySem.Spec PyProof.Rows L2
/-! ### constants and tables of the top, looked at -/
mutual
def datB (K : PySem.W.Frag) : D → Value → Bool
  | .none, .none => true
  | .bool b, .bool c => decide (b = c)
  | .int i, .int j _ => decide (i = j)
  | .str x, .str y _ => decide (x = y)
  | .tuple ds, .ref a => (match K.lookup a with
    | some ⟨.type c, _, .seq its _, _⟩ => decide (c = "tuple") && (decide (its.size ≤ 1000) && datsB K ds its.toList)
    | _ => false)
  | _, _ => false
def datsB (K : PySem.W.Frag) : List D → List Value → Bool
  | [], [] => true
  | d :: ds, u :: us => datB K d u && datsB K ds us
  | _, _ => false
end
mutual
theorem datB_ok {K : PySem.W.Frag} : ∀ (d : D) (u : Value), datB K d u = true → ∃ v, RelV v u ∧ ∀ F, Dv K F v d
  | .none, .none, _ => ⟨.non, rfl, fun _ => .non⟩
  | .bool b, .bool c, h => by
    have e : b = c := of_decide_eq_true h
    subst e
    exact ⟨.bl b, rfl, fun _ => .bl b⟩
  | .int i, .int j t, h => by
    have e : i = j := of_decide_eq_true h
    subst e
    exact ⟨.int i, ⟨t, rfl⟩, fun _ => .int i⟩
  | .str x, .str y t, h => by
    have e : x = y := of_decide_eq_true h
    subst e
    exact ⟨.str x, ⟨t, rfl⟩, fun _ => .str x⟩
  | .tuple ds, .ref a, h => by
    unfold datB at h
    split at h
    · rename_i c od its n sl hk
      obtain ⟨h1, h2⟩ := and2 h
      obtain ⟨h3, h4⟩ := and2 h2
      have e1 : c = "tuple" := of_decide_eq_true h1
      subst e1
      obtain ⟨vs, r1, r2⟩ := datsB_ok ds its.toList h4
      exact ⟨.ref a, rfl, fun F => .tup (.inr ⟨_, its, n, hk, rfl, rfl, le_line (Nat.le_trans (of_decide_eq_true h3) (by decide)), r1⟩) (r2 F)⟩
    · cases h
theorem datsB_ok {K : PySem.W.Frag} : ∀ (ds : List D) (us : List Value), datsB K ds us = true → ∃ vs, Vals vs us ∧ ∀ F, DvAll K F vs ds
  | [], [], _ => ⟨[], .nil, fun _ => .nil⟩
  | d :: ds, u :: us, h => by
    unfold datsB at h
    obtain ⟨h1, h2⟩ := and2 h
    obtain ⟨v, r1, r2⟩ := datB_ok d u h1
    obtain ⟨vs, r3, r4⟩ := datsB_ok ds us h2
    exact ⟨v :: vs, .cons r1 r3, fun F => .cons (r2 F) (r4 F)⟩
end
def consB (K : PySem.W.Frag) (cs : List (Str × D)) : Bool := cs.all fun q => match PySem.W.nsIn K mainGlobals q.1 with
  | some (some u) => datB K q.2 u
  | _ => false
def entB (K : PySem.W.Frag) : List DictEntry → List (Str × D) → Bool
  | [], [] => true
  | e :: es, q :: qs => (match e.key with
    | .str x _ => decide (x = q.1)
    | _ => false) && (datB K q.2 e.val && entB K es qs)
  | _, _ => false
def tabB (K : PySem.W.Frag) (a : Addr) (kvs : List (Str × D)) : Bool := match K.lookup a with
  | some ⟨_, _, .dict es _, _⟩ => entB K es.toList kvs
  | _ => false
theorem ent_find {K : PySem.W.Frag} (z : Str) : ∀ (es : List DictEntry) (kvs : List (Str × D)), entB K es kvs = true → es.any (·.refKey) = false ∧ match looK z kvs with
    | some d => ∃ e v, es.find? (·.key.isStr z) = some e ∧ RelV v e.val ∧ ∀ F, Dv K F v d
    | none => es.find? (·.key.isStr z) = none
  | [], [], _ => ⟨rfl, rfl⟩
  | [], _ :: _, h => by cases h
  | _ :: _, [], h => by cases h
  | e :: es, q :: qs, h => by
    unfold entB at h
    obtain ⟨h1, h2⟩ := and2 h
    obtain ⟨h3, h4⟩ := and2 h2
    obtain ⟨i1, i2⟩ := ent_find z es qs h4
    obtain ⟨k, d⟩ := q
    cases hk : e.key with
    | str x t =>
      rw [hk] at h1
      have ex : x = k := of_decide_eq_true h1
      subst ex
      refine ⟨?_, ?_⟩
      · rw [List.any_cons, i1, Bool.or_false]
        unfold DictEntry.refKey
        rw [hk]
      · by_cases hz : x = z
        · subst hz
          have hl : looK x ((x, d) :: qs) = some d := by
            unfold looK
            rw [if_pos rfl]
          rw [hl]
          obtain ⟨v, r1, r2⟩ := datB_ok _ _ h3
          refine ⟨e, v, ?_, r1, r2⟩
          rw [List.find?_cons]
          have : e.key.isStr x = true := by
            rw [hk]
            show (x == x) = true
            exact beq_self_eq_true x
          rw [this]
        · have hl : looK z ((x, d) :: qs) = looK z qs := by
            show (if x = z then some d else looK z qs) = _
            rw [if_neg hz]
          rw [hl]
          have hf : (e :: es).find? (·.key.isStr z) = es.find? (·.key.isStr z) := by
            rw [List.find?_cons]
            have : e.key.isStr z = false := by
              rw [hk]
              show (x == z) = false
              rw [beq_eq_false_iff_ne]
              exact hz
            rw [this]
          rw [hf]
          exact i2
    | _ =>
      rw [hk] at h1
      cases h1
theorem tabB_ok {K : PySem.W.Frag} {a : Addr} {kvs : List (Str × D)} (h : tabB K a kvs = true) (z : Str) : match looK z kvs with
    | some d => ∃ u v, PySem.W.nsIn K a z = some (some u) ∧ RelV v u ∧ ∀ F, Dv K F v d
    | none => PySem.W.nsIn K a z = some none := by
  unfold tabB at h
  split at h
  · rename_i c od es n sl hk
    obtain ⟨h1, h2⟩ := ent_find z es.toList kvs h
    cases hl : looK z kvs with
    | some d =>
      rw [hl] at h2
      obtain ⟨e, v, e1, e2, e3⟩ := h2
      refine ⟨e.val, v, ?_, e2, e3⟩
      unfold PySem.W.nsIn
      rw [hk]
      simp only [e1]
    | none =>
      rw [hl] at h2
      have h2' : es.toList.find? (·.key.isStr z) = none := h2
      show PySem.W.nsIn K a z = some none
      unfold PySem.W.nsIn
      rw [hk]
      simp only [h2', h1]
      rfl
  · cases h
/-! ### a hook that looks once more -/
def obsX (n : Nat) (fa : List He.Fa) (fn : List He.DefD) (ts : List He.Tab) (q : PySem.W.Frag → Bool) (g : Addr → Option Obj) : He.AlT × Bool := (He.obsT fa fn ts (He.frG g (He.asD g n)), q (He.frG g (He.asD g n)))
def hookX (n : Nat) (fa : List He.Fa) (fn : List He.DefD) (ts : List He.Tab) (q : PySem.W.Frag → Bool) : PySem.W.Hook where
  α := He.AlT × Bool
  obs := fun s => obsX n fa fn ts q s.heap.get?
  val := fun w => (He.valT fn ts w, true)
  says := fun w h => ∃ K : PySem.W.Frag, K.In h ∧ He.SaysT fa fn ts w K ∧ q K = true
  of := fun _ _ e => ⟨_, He.frG_in, congrArg Prod.fst e, congrArg Prod.snd e⟩
  keeps := fun _ _ _ z k => by
    obtain ⟨K, hK, c⟩ := z
    exact ⟨K, PySem.W.Frag.In.keeps hK k, c⟩
theorem obsX_eq {n : Nat} {fa : List He.Fa} {fn : List He.DefD} {ts : List He.Tab} {q : PySem.W.Frag → Bool} {g : Addr → Option Obj} {s : Shared} (h : ∀ a, g a = s.heap.get? a) : obsX n fa fn ts q g = (hookX n fa fn ts q).obs s := by
  have e : g = s.heap.get? := funext h
  subst e
  rfl
/-! ### the empty table of defs -/
def Gam.top (cs : List (Str × D)) (tb : List (Str × List (Str × D))) : Gam := ⟨fun x => looK x cs, fun x => (tb.find? fun q => decide (q.1 = x)).map (·.2), fun _ _ => none, fun _ _ _ => none⟩
theorem looK_mem {x : Str} {d : D} : ∀ {cs : List (Str × D)}, looK x cs = some d → (x, d) ∈ cs
  | [], h => by cases h
  | (y, e) :: r, h => by
    have h' : (if y = x then some e else looK x r) = some d := h
    by_cases hy : y = x
    · rw [if_pos hy] at h'
      cases h'
      rw [hy]
      exact List.mem_cons_self
    · rw [if_neg hy] at h'
      exact List.mem_cons_of_mem _ (looK_mem h')
theorem Gm.top {kL : Str} {P : Program} {w : World} {K : PySem.W.Frag} {mg : Str → Option Value} {base h : Heap} {cs : List (Str × D)} {tb : List (Str × List (Str × D))} (hk : kL = "left" ∨ kL = "rest") (kin : K.In h) (ns : h.Ns mainGlobals mg) (hb : ∀ x ∈ bltNames, mg x = none)
    (hc : consB K cs = true) (ht : ∀ q ∈ tb, mg q.1 = some (.ref (He.ga K q.1)) ∧ tabB K (He.ga K q.1) q.2 = true ∧ ∃ es m, KDict K w (He.ga K q.1) es m) : Gm kL (Gam.top cs tb) 0 P w K mg base := by
  refine ⟨hk, hb, fun x d e => ?_, fun x kvs e => ?_, (fun x m G e => nomatch e), (fun x ky m G e => nomatch e)⟩
  · have hm := looK_mem (show looK x cs = some d from e)
    have h1 := List.all_eq_true.mp hc _ hm
    cases q : PySem.W.nsIn K mainGlobals x with
    | none =>
      rw [q] at h1
      cases h1
    | some o =>
      rw [q] at h1
      cases o with
      | none => cases h1
      | some u =>
        obtain ⟨v, r1, r2⟩ := datB_ok d u h1
        exact ⟨v, u, PySem.W.mg_of kin ns q, r1, r2⟩
  · obtain ⟨q, e1, e2⟩ := Option.map_eq_some_iff.mp (show (tb.find? fun q => decide (q.1 = x)).map (·.2) = some kvs from e)
    have hm := List.mem_of_find?_eq_some e1
    have hx0 : decide (q.1 = x) = true := List.find?_some (p := fun q : Str × List (Str × D) => decide (q.1 = x)) e1
    have hx : q.1 = x := of_decide_eq_true hx0
    obtain ⟨t1, t2, es, m, t3⟩ := ht q hm
    subst e2 hx
    exact ⟨_, es, m, t1, t3, tabB_ok t2⟩
end Qv

namespace Qv
open PySem
/-! ### tools for the plain part -/
theorem mb_ret {α β : Type} (a : α) (f : α → M β) : mb (ret a) f = f a := rfl
theorem mb_bad {α β : Type} (f : α → M β) : mb (bad : M α) f = bad := rfl
theorem mb_mb {α β γ : Type} (x : M α) (f : α → M β) (g : β → M γ) : mb (mb x f) g = mb x fun a => mb (f a) g := by
  funext s
  unfold mb
  cases x s with
  | none => rfl
  | some q => rfl
theorem ofO_ret {α : Type} (a : α) : ofO (some a) = (ret a : M α) := rfl
theorem ofO_bad {α : Type} : ofO (none : Option α) = (bad : M α) := rfl
theorem ite_tt {α : Type} (a b : α) : (if (true = true) then a else b) = a := rfl
theorem ite_ft {α : Type} (a b : α) : (if (false = true) then a else b) = b := rfl
theorem behind_nil (d : D) (ρ : Rho) : behind [] d ρ = ρ := by
  unfold behind
  rw [thaw_nil]
  cases flat d <;> rfl
theorem behind_int (fs : List Nat) (i : Int) (ρ : Rho) : behind fs (.int i) ρ = ρ := rfl
theorem behind_bool (fs : List Nat) (i : Bool) (ρ : Rho) : behind fs (.bool i) ρ = ρ := rfl
theorem behind_str (fs : List Nat) (i : Str) (ρ : Rho) : behind fs (.str i) ρ = ρ := rfl
theorem behind_none (fs : List Nat) (ρ : Rho) : behind fs .none ρ = ρ := rfl
theorem behind_tup (fs : List Nat) (i : List D) (ρ : Rho) : behind fs (.tuple i) ρ = thaw fs 0 ρ := rfl
theorem behind_lst (fs : List Nat) (i : List D) (ρ : Rho) : behind fs (.list i) ρ = thaw fs 0 ρ := rfl
theorem isNone_none : isNone .none = true := rfl
theorem isNone_bool (b : Bool) : isNone (.bool b) = false := rfl
theorem isNone_int (b : Int) : isNone (.int b) = false := rfl
theorem isNone_str (b : Str) : isNone (.str b) = false := rfl
theorem isNone_tup (b : List D) : isNone (.tuple b) = false := rfl
theorem isNone_lst (b : List D) : isNone (.list b) = false := rfl
theorem bindT_nm (i : Nat) (d : D) (ρ : Rho) : bindT (.nm i) d ρ = some (ρ.set i (.val d)) := rfl
theorem bindT_tp (is : List Nat) (ds : List D) (ρ : Rho) : bindT (.tp is) (.tuple ds) ρ = setAll is ds ρ := rfl
/-- total at every state -/
def Tot {α : Type} (m : M α) (P : α → Prop) : Prop := ∀ s, ∃ a s', m s = some (a, s') ∧ P a
theorem tot_ret {α : Type} {a : α} {P : α → Prop} (h : P a) : Tot (ret a) P := fun s => ⟨a, s, rfl, h⟩
theorem tot_mb {α β : Type} {x : M α} {f : α → M β} {P : α → Prop} {R : β → Prop} (hx : Tot x P) (hf : ∀ a, P a → Tot (f a) R) : Tot (mb x f) R := fun s => by
  obtain ⟨a, s1, e1, h1⟩ := hx s
  obtain ⟨b, s2, e2, h2⟩ := hf a h1 s1
  refine ⟨b, s2, ?_, h2⟩
  unfold mb
  rw [e1]
  exact e2
theorem tot_imp {α : Type} {m : M α} {P R : α → Prop} (h : Tot m P) (i : ∀ a, P a → R a) : Tot m R := fun s => by
  obtain ⟨a, s1, e1, h1⟩ := h s
  exact ⟨a, s1, e1, i a h1⟩
theorem compL_map {f : D → M (Option D)} {g : D → D} : ∀ {xs : List D}, (∀ x ∈ xs, f x = ret (some (g x))) → compL f xs = ret (xs.map g)
  | [], _ => rfl
  | x :: r, h => by
    unfold compL
    rw [h x List.mem_cons_self, compL_map fun y hy => h y (List.mem_cons_of_mem _ hy)]
    rfl
theorem compL_filter {f : D → M (Option D)} {p : D → Bool} {g : D → D} : ∀ {xs : List D}, (∀ x ∈ xs, f x = ret (if p x = true then some (g x) else none)) → compL f xs = ret ((xs.filter p).map g)
  | [], _ => rfl
  | x :: r, h => by
    unfold compL
    rw [h x List.mem_cons_self, compL_filter fun y hy => h y (List.mem_cons_of_mem _ hy)]
    rw [List.filter_cons]
    cases p x <;> rfl
/-- a comprehension over typed things -/
theorem compL_of {α : Type} {f : D → M (Option D)} {e : α → D} {g : α → D} : ∀ {xs : List α}, (∀ x ∈ xs, f (e x) = ret (some (g x))) → compL f (xs.map e) = ret (xs.map g)
  | [], _ => rfl
  | x :: r, h => by
    rw [List.map_cons]
    unfold compL
    rw [h x List.mem_cons_self, compL_of fun y hy => h y (List.mem_cons_of_mem _ hy)]
    rfl
theorem compL_ofF {α : Type} {f : D → M (Option D)} {e : α → D} {p : α → Bool} {g : α → D} : ∀ {xs : List α}, (∀ x ∈ xs, f (e x) = ret (if p x = true then some (g x) else none)) → compL f (xs.map e) = ret ((xs.filter p).map g)
  | [], _ => rfl
  | x :: r, h => by
    rw [List.map_cons]
    unfold compL
    rw [h x List.mem_cons_self, compL_ofF fun y hy => h y (List.mem_cons_of_mem _ hy)]
    rw [List.filter_cons]
    cases p x <;> rfl
/-- draws within a comprehension -/
theorem compL_tot {f : D → M (Option D)} {P : D → Prop} : ∀ {xs : List D}, (∀ x ∈ xs, Tot (f x) fun o => ∃ d, o = some d ∧ P d) → Tot (compL f xs) fun ds => ds.length = xs.length ∧ ∀ d ∈ ds, P d
  | [], _ => tot_ret ⟨rfl, fun d h => nomatch h⟩
  | x :: r, h => by
    unfold compL
    refine tot_mb (h x List.mem_cons_self) fun o ho => tot_mb (compL_tot fun y hy => h y (List.mem_cons_of_mem _ hy)) fun ds hd => tot_ret ?_
    obtain ⟨d, rfl, hp⟩ := ho
    refine ⟨congrArg Nat.succ hd.1, fun e he => ?_⟩
    rcases List.mem_cons.mp he with rfl | he
    · exact hp
    · exact hd.2 e he
/-! ### operations on data, as rows for simp -/
theorem ofS_inj (a b : String) : (Str.ofString a = Str.ofString b) = (a = b) := by
  apply propext
  constructor
  · intro h
    rw [Str.ofString_eq_toList, Str.ofString_eq_toList] at h
    have h1 := congrArg (fun z : Str => z.cps.toList) h
    have h2 : a.toList.map Char.toNat = b.toList.map Char.toNat := h1
    have h3 : a.toList = b.toList := by
      have inj : ∀ (x y : List Char), x.map Char.toNat = y.map Char.toNat → x = y := by
        intro x
        induction x with
        | nil =>
          intro y e
          cases y with
          | nil => rfl
          | cons _ _ => cases e
        | cons c r ih =>
          intro y e
          cases y with
          | nil => cases e
          | cons d t =>
            rw [List.map_cons, List.map_cons] at e
            obtain ⟨e1, e2⟩ := List.cons.inj e
            rw [ih t e2, Char.toNat_inj.mp e1]
      exact inj _ _ h2
    exact String.toList_inj.mp h3
  · intro h
    rw [h]
theorem beq_ofS (a b : String) : (Str.ofString a == Str.ofString b) = decide (a = b) := by
  by_cases h : a = b
  · rw [h, decide_eq_true rfl, beq_self_eq_true]
  · rw [decide_eq_false h, beq_eq_false_iff_ne]
    intro z
    rw [ofS_inj] at z
    exact h z
theorem cop_eq_str (a b : Str) : cop .eq (.str a) (.str b) = some (decide (a = b)) := rfl
theorem cop_ne_str (a b : Str) : cop .ne (.str a) (.str b) = some (!decide (a = b)) := rfl
theorem shaped_int (i : Int) : SeqAt.shaped (.int i) = true := rfl
theorem cop_eq_int (i j : Int) : cop .eq (.int i) (.int j) = some (i == j) := rfl
theorem cop_ne_int (i j : Int) : cop .ne (.int i) (.int j) = some (!(i == j)) := rfl
theorem cop_lt_int (i j : Int) : cop .lt (.int i) (.int j) = some (decide (i < j)) := rfl
theorem cop_le_int (i j : Int) : cop .le (.int i) (.int j) = some (decide (i ≤ j)) := rfl
theorem cop_gt_int (i j : Int) : cop .gt (.int i) (.int j) = some (decide (j < i)) := rfl
theorem cop_ge_int (i j : Int) : cop .ge (.int i) (.int j) = some (decide (j ≤ i)) := rfl
theorem cop_in (a b : D) : cop .isin a b = inD a b := rfl
theorem cop_nin (a b : D) : cop .notin a b = (inD a b).map (!·) := rfl
theorem eqF_str (a b : Str) : eqF (.str a) (.str b) = (a == b) := rfl
theorem bool_last (b : Bool) : (match PyData.bool b with
    | .bool true => ret (PyData.bool true)
    | .bool false => ret (PyData.bool false)
    | _ => (bad : M D)) = ret (.bool b) := by cases b <;> rfl
theorem bi_len_t (xs : List D) : bi .len [.tuple xs] = some (.int xs.length) := rfl
theorem bi_len_l (xs : List D) : bi .len [.list xs] = some (.int xs.length) := rfl
theorem bi_len_s (z : Str) : bi .len [.str z] = if lenOk z.length then some (.int z.length) else none := rfl
theorem bi_tup_l (xs : List D) : bi .tuple [.list xs] = some (.tuple xs) := rfl
theorem bi_tup_t (xs : List D) : bi .tuple [.tuple xs] = some (.tuple xs) := rfl
theorem bi_lst_l (xs : List D) : bi .list [.list xs] = some (.list xs) := rfl
theorem bi_lst_t (xs : List D) : bi .list [.tuple xs] = some (.list xs) := rfl
theorem bi_int_i (i : Int) : bi .int [.int i] = some (.int i) := rfl
theorem bi_int_b (b : Bool) : bi .int [.bool b] = some (.int (if b then 1 else 0)) := rfl
theorem boolsOf_map {α : Type} (p : α → Bool) : ∀ xs : List α, boolsOf (xs.map fun x => .bool (p x)) = some (xs.map p)
  | [] => rfl
  | x :: r => by
    rw [List.map_cons]
    show (boolsOf (r.map fun x => .bool (p x))).map (p x :: ·) = _
    rw [boolsOf_map p r]
    rfl
theorem bi_all_map {α : Type} (p : α → Bool) (xs : List α) : bi .all [.list (xs.map fun x => .bool (p x))] = some (.bool (xs.all p)) := by
  show (boolsOf _).map _ = _
  rw [boolsOf_map]
  show some (PyData.bool ((xs.map p).all id)) = _
  rw [List.all_map]
  rfl
theorem all_is {α : Type} {p : α → Bool} {xs : List α} (h : ∀ x ∈ xs, p x = true) : xs.all p = true := List.all_eq_true.mpr h
theorem lenOk_of {n : Nat} (h : n ≤ 1000000) : lenOk n = true := decide_eq_true h
/-- places -/
theorem ix_t0 (x : D) (r : List D) : ixD (.tuple (x :: r)) (.int 0) = some x := by
  show L2.atI (x :: r) 0 = _
  unfold L2.atI L2.ixN
  rw [if_pos (by omega), if_pos (by rw [List.length_cons]; omega)]
  rfl
theorem ix_at {xs : List D} {i : Nat} {x : D} (h : xs[i]? = some x) : L2.atI xs (i : Int) = some x := by
  have hl := (List.getElem?_eq_some_iff.mp h).1
  unfold L2.atI L2.ixN
  rw [if_pos (by omega), if_pos (by omega)]
  exact h
theorem ix_t {xs : List D} {i : Nat} {x : D} (h : xs[i]? = some x) : ixD (.tuple xs) (.int (i : Int)) = some x := ix_at h
theorem ix_l {xs : List D} {i : Nat} {x : D} (h : xs[i]? = some x) : ixD (.list xs) (.int (i : Int)) = some x := ix_at h
theorem ix_t1 (a b : D) (r : List D) : ixD (.tuple (a :: b :: r)) (.int 1) = some b := ix_t (i := 1) rfl
theorem ix_t2 (a b c : D) (r : List D) : ixD (.tuple (a :: b :: c :: r)) (.int 2) = some c := ix_t (i := 2) rfl
theorem ix_t3 (a b c d : D) (r : List D) : ixD (.tuple (a :: b :: c :: d :: r)) (.int 3) = some d := ix_t (i := 3) rfl
theorem ix_t4 (a b c d e : D) (r : List D) : ixD (.tuple (a :: b :: c :: d :: e :: r)) (.int 4) = some e := ix_t (i := 4) rfl
theorem ix_t5 (a b c d e f : D) (r : List D) : ixD (.tuple (a :: b :: c :: d :: e :: f :: r)) (.int 5) = some f := ix_t (i := 5) rfl
theorem ix_l0 (x : D) (r : List D) : ixD (.list (x :: r)) (.int 0) = some x := ix_t0 x r
theorem nc0 : ((0 : Nat) : Int) = 0 := rfl
theorem nc1 : ((1 : Nat) : Int) = 1 := rfl
theorem nc2 : ((2 : Nat) : Int) = 2 := rfl
theorem nc3 : ((3 : Nat) : Int) = 3 := rfl
theorem nc4 : ((4 : Nat) : Int) = 4 := rfl
theorem nc5 : ((5 : Nat) : Int) = 5 := rfl
theorem nc6 : ((6 : Nat) : Int) = 6 := rfl
theorem bop_add_int (i j : Int) : bop .add (.int i) (.int j) = some (.int (i + j)) := rfl
theorem bop_sub_int (i j : Int) : bop .sub (.int i) (.int j) = some (.int (i - j)) := rfl
/-- slices with plain ends -/
theorem sl_from {α : Type} (xs : List α) (n : Nat) : cut xs (some (n : Int)) none = xs.drop n := by
  unfold cut
  rw [HT.sIx_none, HT.sIx_nat]
  apply List.ext_getElem?
  intro i
  rw [List.getElem?_take, List.getElem?_drop, List.getElem?_drop]
  by_cases h : n ≤ xs.length
  · rw [Nat.min_eq_left h]
    by_cases h2 : i < xs.length - n
    · rw [if_pos h2]
    · rw [if_neg h2, List.getElem?_eq_none (by omega)]
  · rw [Nat.min_eq_right (by omega), if_neg (by omega), List.getElem?_eq_none (by omega)]
theorem sl_to {α : Type} (xs : List α) (n : Nat) : cut xs none (some (n : Int)) = xs.take n := by
  unfold cut
  rw [HT.sIx_none, HT.sIx_nat, List.drop_zero, Nat.sub_zero]
  apply List.ext_getElem?
  intro i
  rw [List.getElem?_take, List.getElem?_take]
  by_cases h : i < n
  · by_cases h2 : i < xs.length
    · rw [if_pos (by omega), if_pos h]
    · rw [if_neg (by omega), if_pos h, List.getElem?_eq_none (by omega)]
  · rw [if_neg (by omega), if_neg h]
theorem sl_tup_from (xs : List D) (n : Nat) : slD (.tuple xs) (some (n : Int)) none = some (.tuple (xs.drop n)) := by
  show some (PyData.tuple (cut xs _ _)) = _
  rw [sl_from]
theorem sl_tup_to (xs : List D) (n : Nat) : slD (.tuple xs) none (some (n : Int)) = some (.tuple (xs.take n)) := by
  show some (PyData.tuple (cut xs _ _)) = _
  rw [sl_to]
theorem sl_lst_from (xs : List D) (n : Nat) : slD (.list xs) (some (n : Int)) none = some (.list (xs.drop n)) := by
  show some (PyData.list (cut xs _ _)) = _
  rw [sl_from]
theorem sl_lst_to (xs : List D) (n : Nat) : slD (.list xs) none (some (n : Int)) = some (.list (xs.take n)) := by
  show some (PyData.list (cut xs _ _)) = _
  rw [sl_to]
theorem sl_t1 (x : D) (r : List D) : slD (.tuple (x :: r)) (some 1) none = some (.tuple r) := sl_tup_from (x :: r) 1
theorem bi_all_l (xs : List D) : bi .all [.list xs] = (boolsOf xs).map fun bs => .bool (bs.all id) := rfl
end Qv

namespace Tx
open PySem Qv
def kL : Str := "left"
def fuel : Nat := 1000
def t_WANTS : List (Str × D) := [("call", .tuple [.str "mark"]), ("set", .tuple [.str "mark", .str "place"]), ("gone", .tuple [.str "mark", .str "line"]), ("told", .tuple [.str "answer", .str "line"]), ("raise", .tuple [.str "name"]), ("lower", .tuple [.str "name"]), ("ask", .tuple [.str "name", .str "line"]), ("go", .tuple [.str "line"]), ("use", .tuple [.str "name"]), ("wait", .tuple [.str "name"]), ("end", .tuple [])]
def cons : List (Str × D) := [("LETTERS", .str "abcdefghijklmnopqrstuvwxyz"), ("STRETCH_KINDS", .tuple [.str "counted", .str "mute", .str "timed"]), ("PLACES", .tuple [.str "start", .str "end", .str "stop"]), ("ANSWERS", .tuple [.str "whole", .str "part", .str "broken"]), ("OWN_WORDS", .tuple [.str "wait", .str "end"])]
def tabs : List (Str × List (Str × D)) := [("WANTS", t_WANTS)]
def G_0 : Gam := Gam.top cons tabs
def N__law_draw : List Str := ["_law_feed_here", "_law_many", "_law_figure", "_law_spot", "_law_cells", "_law_cell", "_law_mixed"]
def s__law_draw : Ss := (.cons (.fset 0 .turn (.bin .add (.fg 0 .turn) (.c (.int (1))))) (.cons (.iff (.cmp .gt (.fg 0 .left) (.c (.int (0)))) [] (.cons (.asg (.nm 2) (.bin .mod (.bi .int (.cons (.fg 0 .left) .nil)) (.v 1)) []) (.cons (.fset 0 .left (.bin .fdiv (.fg 0 .left) (.v 1))) (.cons (.ret (.v 2) []) .nil))) .nil) (.cons (.par [3, 4] (.cons (.fg 0 .spot) (.cons (.fg 0 .cells) .nil)) [false, false] []) (.cons (.fset 0 .spot (.bin .add (.v 3) (.c (.int (1))))) (.cons (.asg (.nm 5) (.ite (.cmp .ne (.v 4) (.lst .nil)) (.ix (.v 4) (.bin .mod (.bi .int (.cons (.v 3) .nil)) (.bi .len (.cons (.v 4) .nil)))) (.c (.int (6755)))) []) (.cons (.iff (.and (.cons (.cmp .ge (.v 5) (.bin .pow (.c (.int (10))) (.c (.int (18))))) (.cons (.cmp .lt (.v 3) (.bi .len (.cons (.v 4) .nil))) .nil))) [] (.cons (.fset 0 .left (.bin .fdiv (.v 5) (.v 1))) (.cons (.ret (.bin .mod (.bi .int (.cons (.v 5) .nil)) (.v 1)) []) .nil)) .nil) (.cons (.asg (.nm 6) (.bin .mod (.bi .int (.cons (.bin .add (.bin .add (.bin .mod (.bi .int (.cons (.v 5) .nil)) (.c (.int (1999999973)))) (.bin .mul (.c (.int (94319))) (.fg 0 .turn))) (.c (.int (901)))) .nil)) (.c (.int (2147483579)))) []) (.cons (.asg (.nm 6) (.bin .mod (.bi .int (.cons (.bin .add (.bin .add (.bin .mul (.v 6) (.v 6)) (.bin .mul (.c (.int (15550971))) (.fg 0 .turn))) (.c (.int (281)))) .nil)) (.c (.int (2147483563)))) []) (.cons (.ret (.bin .mod (.bi .int (.cons (.bin .fdiv (.bin .mod (.bi .int (.cons (.bin .add (.bin .mul (.v 6) (.v 6)) (.bin .mul (.c (.int (771))) (.v 6))) .nil)) (.c (.int (2147483549)))) (.c (.int (32)))) .nil)) (.v 1)) []) .nil)))))))))
def f__law_draw : List C → M D := evF G_0 fuel 2 7 s__law_draw
def G_1 : Gam := (G_0.add "_law_draw" 2 f__law_draw)
def N__law_put : List Str := ["_law_plan", "_law_ring", "_law_rows", "_law_late", "_law_one"]
def s__law_put : Ss := (.cons (.iff (.isN (.v 1)) [] (.cons (.ret (.bin .add (.sl (.v 0) .non (.som (.c (.int (4))))) (.tup (.cons (.bi .tuple (.cons (.v 2) .nil)) (.cons (.ix (.v 0) (.c (.int (5)))) .nil)))) []) .nil) .nil) (.cons (.asc false 3 (.bin .add (.sl (.v 4) .non (.som (.c (.int (3))))) (.tup (.cons (.ite (.cmp .eq (.ix (.v 4) (.c (.int (0)))) (.v 1)) (.bi .tuple (.cons (.v 2) .nil)) (.ix (.v 4) (.c (.int (3))))) .nil))) (.nm 4) (.dat (.ix (.v 0) (.c (.int (5))))) .non [("_law_one", 4)] []) (.cons (.ret (.bin .add (.sl (.v 0) .non (.som (.c (.int (5))))) (.tup (.cons (.bi .tuple (.cons (.v 3) .nil)) .nil))) []) .nil)))
def f__law_put : List C → M D := evF G_1 fuel 3 5 s__law_put
def G_2 : Gam := (G_1.add "_law_put" 3 f__law_put)
def N__law_lined : List Str := ["_law_piece"]
def s__law_lined : Ss := (.cons (.ret (.cmp .isin (.ix (.v 0) (.c (.int (0)))) (.tup (.cons (.c (.str "gone")) (.cons (.c (.str "told")) (.cons (.c (.str "ask")) (.cons (.c (.str "go")) .nil)))))) []) .nil)
def f__law_lined : List C → M D := evF G_2 fuel 1 1 s__law_lined
def G_3 : Gam := (G_2.add "_law_lined" 1 f__law_lined)
def N__law_tagged : List Str := ["_law_rows", "_law_tags", "_law_found", "_law_where", "_law_piece", "_law_goal"]
def s__law_tagged_b1 : Ss := (.cons (.asg (.nm 5) (.ite (.call "_law_lined" (.cons (.v 4) .nil)) (.ix (.bin .add (.v 1) (.lst (.cons (.c (.str "behind")) .nil))) (.ix (.v 4) (.neg (.c (.int (1)))))) (.c (.none))) []) (.cons (.app 2 (.tup (.cons (.ite (.call "_law_lined" (.cons (.v 4) .nil)) (.sl (.v 4) .non (.som (.neg (.c (.int (1)))))) (.v 4)) (.cons (.ix (.v 1) (.v 3)) (.cons (.v 5) .nil)))) []) .nil))
def s__law_tagged : Ss := (.cons (.new 2 (.lst .nil) []) (.cons (.fr (.tp [3, 4]) (.enm (.v 0)) [] s__law_tagged_b1) (.cons (.ret (.v 2) [2]) .nil)))
def f__law_tagged : List C → M D := evF G_3 fuel 2 6 s__law_tagged
def G_4 : Gam := (G_3.add "_law_tagged" 2 f__law_tagged)
def N__law_untagged : List Str := ["_law_lot", "_law_tags", "_law_words", "_law_own", "_law_goal"]
def s__law_untagged : Ss := (.cons (.asg (.nm 1) (.bin .add (.comp (.v 3) (.tp [2, 3, 4]) (.dat (.v 0)) .non [("_law_words", 2), ("_law_own", 3), ("_law_goal", 4)]) (.lst (.cons (.c (.str "behind")) .nil))) []) (.cons (.ret (.comp (.ite (.isN (.v 4)) (.v 2) (.bin .add (.v 2) (.tup (.cons (.mth .index (.v 1) (.cons (.v 4) .nil)) .nil)))) (.tp [2, 3, 4]) (.dat (.v 0)) .non [("_law_words", 2), ("_law_own", 3), ("_law_goal", 4)]) []) .nil))
def f__law_untagged : List C → M D := evF G_4 fuel 1 5 s__law_untagged
def G_5 : Gam := (G_4.add "_law_untagged" 1 f__law_untagged)
def N__law_put_in : List Str := ["_law_rows", "_law_where", "_law_piece", "_law_lot", "_law_names", "_law_goal", "_law_words", "_law_own"]
def s__law_put_in : Ss := (.cons (.asg (.nm 3) (.call "_law_tagged" (.cons (.bi .list (.cons (.v 0) .nil)) (.cons (.lrg (.bi .len (.cons (.v 0) .nil))) .nil))) []) (.cons (.asc false 4 (.v 7) (.tp [6, 7, 5]) (.dat (.v 3)) .non [("_law_words", 6), ("_law_own", 7), ("_law_goal", 5)] []) (.cons (.asg (.nm 4) (.bin .add (.bin .add (.bin .add (.sl (.v 4) .non (.som (.v 1))) (.lst (.cons (.c (.str "new")) .nil))) (.sl (.v 4) (.som (.v 1)) .non)) (.lst (.cons (.c (.str "behind")) .nil))) []) (.cons (.asg (.nm 5) (.ite (.call "_law_lined" (.cons (.v 2) .nil)) (.ix (.v 4) (.ix (.v 2) (.neg (.c (.int (1)))))) (.c (.none))) []) (.cons (.ret (.call "_law_untagged" (.cons (.bin .add (.bin .add (.sl (.v 3) .non (.som (.v 1))) (.lst (.cons (.tup (.cons (.ite (.call "_law_lined" (.cons (.v 2) .nil)) (.sl (.v 2) .non (.som (.neg (.c (.int (1)))))) (.v 2)) (.cons (.c (.str "new")) (.cons (.v 5) .nil)))) .nil))) (.sl (.v 3) (.som (.v 1)) .non)) .nil)) []) .nil)))))
def f__law_put_in : List C → M D := evF G_5 fuel 3 8 s__law_put_in
def G_6 : Gam := (G_5.add "_law_put_in" 3 f__law_put_in)
def N__law_pick : List Str := ["_law_feed_here", "_law_some"]
def s__law_pick : Ss := (.cons (.ret (.ix (.v 1) (.call "_law_draw" (.cons (.v 0) (.cons (.bi .len (.cons (.v 1) .nil)) .nil)))) []) .nil)
def f__law_pick : List C → M D := evF G_6 fuel 2 2 s__law_pick
def G_7 : Gam := (G_6.add "_law_pick" 2 f__law_pick)
def N__law_row : List Str := ["_law_feed_here", "_law_known_here", "_law_many", "_law_is_own", "_law_words", "_law_word", "_law_line", "_law_mark", "_law_own", "_law_others", "_law_one", "_law_far"]
def s__law_row : Ss := (.cons (.asg (.nm 4) (.bin .add (.lst (.cons (.c (.str "told")) (.cons (.c (.str "go")) .nil))) (.ite (.cmp .ne (.ix (.v 1) (.c (.int (1)))) (.tup .nil)) (.lst (.cons (.c (.str "call")) (.cons (.c (.str "set")) (.cons (.c (.str "gone")) (.cons (.c (.str "call")) .nil))))) (.lst .nil))) []) (.cons (.asg (.nm 4) (.bin .add (.v 4) (.ite (.cmp .ne (.ix (.v 1) (.c (.int (2)))) (.tup .nil)) (.lst (.cons (.c (.str "raise")) (.cons (.c (.str "lower")) (.cons (.c (.str "ask")) .nil)))) (.lst .nil))) []) (.cons (.asg (.nm 4) (.bin .add (.bin .add (.v 4) (.ite (.cmp .ne (.ix (.v 1) (.c (.int (3)))) (.tup .nil)) (.lst (.cons (.c (.str "use")) .nil)) (.lst .nil))) (.ite (.v 3) (.lst (.cons (.c (.str "end")) .nil)) (.lst .nil))) []) (.cons (.asg (.nm 4) (.bin .add (.v 4) (.ite (.and (.cons (.v 3) (.cons (.cmp .ne (.ix (.v 1) (.c (.int (2)))) (.tup .nil)) .nil))) (.lst (.cons (.c (.str "wait")) .nil)) (.lst .nil))) []) (.cons (.par [5, 6] (.cons (.call "_law_pick" (.cons (.v 0) (.cons (.v 4) .nil))) (.cons (.call "_law_draw" (.cons (.v 0) (.cons (.bin .add (.v 2) (.c (.int (1)))) .nil))) .nil)) [false, false] []) (.cons (.iff (.cmp .isin (.v 5) (.tup (.cons (.c (.str "end")) (.cons (.c (.str "go")) .nil)))) [] (.cons (.ret (.ite (.cmp .eq (.v 5) (.c (.str "end"))) (.tup (.cons (.c (.str "end")) .nil)) (.tup (.cons (.c (.str "go")) (.cons (.v 6) .nil)))) []) .nil) .nil) (.cons (.iff (.cmp .eq (.v 5) (.c (.str "told"))) [] (.cons (.ret (.tup (.cons (.v 5) (.cons (.call "_law_pick" (.cons (.v 0) (.cons (.lst (.cons (.c (.str "whole")) (.cons (.c (.str "part")) (.cons (.c (.str "broken")) .nil)))) .nil))) (.cons (.v 6) .nil)))) []) .nil) .nil) (.cons (.iff (.cmp .isin (.v 5) (.tup (.cons (.c (.str "raise")) (.cons (.c (.str "lower")) (.cons (.c (.str "ask")) (.cons (.c (.str "wait")) .nil)))))) [] (.cons (.ret (.bin .add (.tup (.cons (.v 5) (.cons (.call "_law_pick" (.cons (.v 0) (.cons (.ix (.v 1) (.c (.int (2)))) .nil))) .nil))) (.ite (.cmp .eq (.v 5) (.c (.str "ask"))) (.tup (.cons (.v 6) .nil)) (.tup .nil))) []) .nil) .nil) (.cons (.iff (.cmp .eq (.v 5) (.c (.str "use"))) [] (.cons (.ret (.tup (.cons (.v 5) (.cons (.call "_law_pick" (.cons (.v 0) (.cons (.ix (.v 1) (.c (.int (3)))) .nil))) .nil))) []) .nil) .nil) (.cons (.asg (.tp [7, 8]) (.call "_law_pick" (.cons (.v 0) (.cons (.ix (.v 1) (.c (.int (1)))) .nil))) []) (.cons (.iff (.cmp .eq (.v 5) (.c (.str "set"))) [] (.cons (.asc false 9 (.v 10) (.tp [10, 11]) (.dat (.ix (.v 1) (.c (.int (1))))) (.som (.and (.cons (.cmp .eq (.v 11) (.v 8)) (.cons (.cmp .ne (.v 10) (.v 7)) .nil)))) [("_law_one", 10), ("_law_far", 11)] []) (.cons (.ret (.tup (.cons (.v 5) (.cons (.v 7) (.cons (.call "_law_pick" (.cons (.v 0) (.cons (.bin .add (.lst (.cons (.c (.str "start")) (.cons (.c (.str "end")) (.cons (.c (.str "stop")) .nil)))) (.v 9)) .nil))) .nil)))) []) .nil)) .nil) (.cons (.ret (.bin .add (.tup (.cons (.v 5) (.cons (.v 7) .nil))) (.ite (.cmp .eq (.v 5) (.c (.str "gone"))) (.tup (.cons (.v 6) .nil)) (.tup .nil))) []) .nil))))))))))))
def f__law_row : List C → M D := evF G_7 fuel 4 12 s__law_row
def G_8 : Gam := (G_7.add "_law_row" 4 f__law_row)
def N__law_rows_of : List Str := ["_law_plan", "_law_ring", "_law_one"]
def s__law_rows_of : Ss := (.cons (.ret (.ite (.isN (.v 1)) (.ix (.v 0) (.c (.int (4)))) (.ix (.comp (.ix (.v 2) (.c (.int (3)))) (.nm 2) (.dat (.ix (.v 0) (.c (.int (5))))) (.som (.cmp .eq (.ix (.v 2) (.c (.int (0)))) (.v 1))) [("_law_one", 2)]) (.c (.int (0))))) []) .nil)
def f__law_rows_of : List C → M D := evF G_8 fuel 2 3 s__law_rows_of
def G_9 : Gam := (G_8.add "_law_rows_of" 2 f__law_rows_of)
def N_stretch_in : List Str := ["marks", "mark", "found", "name", "stretch"]
def s_stretch_in : Ss := (.cons (.asc false 2 (.v 4) (.tp [3, 4]) (.dat (.v 0)) (.som (.cmp .eq (.v 3) (.v 1))) [("name", 3), ("stretch", 4)] []) (.cons (.ret (.ite (.cmp .gt (.bi .len (.cons (.v 2) .nil)) (.c (.int (0)))) (.ix (.v 2) (.c (.int (0)))) (.c (.none))) []) .nil))
def f_stretch_in : List C → M D := evF G_9 fuel 2 5 s_stretch_in
def G_10 : Gam := (G_9.add "stretch_in" 2 f_stretch_in)
def N_fits_names : List Str := ["program", "row", "stretches", "marks", "flags", "tools", "first", "stretch"]
def s_fits_names : Ss := (.cons (.asg (.tp [2, 3, 4, 5]) (.sl (.v 0) .non (.som (.c (.int (4))))) []) (.cons (.asg (.nm 6) (.ix (.v 1) (.c (.int (0)))) []) (.cons (.iff (.cmp .isin (.v 6) (.tup (.cons (.c (.str "call")) (.cons (.c (.str "set")) (.cons (.c (.str "gone")) .nil))))) [] (.cons (.asg (.nm 7) (.call "stretch_in" (.cons (.v 3) (.cons (.ix (.v 1) (.c (.int (1)))) .nil))) []) (.cons (.iff (.isN (.v 7)) [] (.cons (.ret (.c (.bool false)) []) .nil) .nil) (.cons (.ret (.or (.cons (.cmp .ne (.v 6) (.c (.str "set"))) (.cons (.cmp .isin (.ix (.v 1) (.c (.int (2)))) (.g "PLACES")) (.cons (.cmp .eq (.call "stretch_in" (.cons (.v 3) (.cons (.ix (.v 1) (.c (.int (2)))) .nil))) (.v 7)) .nil)))) []) .nil))) .nil) (.cons (.iff (.cmp .isin (.v 6) (.tup (.cons (.c (.str "raise")) (.cons (.c (.str "lower")) (.cons (.c (.str "ask")) (.cons (.c (.str "wait")) .nil)))))) [] (.cons (.ret (.cmp .isin (.ix (.v 1) (.c (.int (1)))) (.v 4)) []) .nil) .nil) (.cons (.ret (.or (.cons (.cmp .ne (.v 6) (.c (.str "use"))) (.cons (.cmp .isin (.ix (.v 1) (.c (.int (1)))) (.v 5)) .nil))) []) .nil)))))
def f_fits_names : List C → M D := evF G_10 fuel 2 8 s_fits_names
def G_11 : Gam := (G_10.add "fits_names" 2 f_fits_names)
def N_is_name : List Str := ["thing", "sign"]
def s_is_name : Ss := (.cons (.ret (.and (.cons (.isi (.v 0) .str) (.cons (.chn .le .le (.c (.int (1))) (.bi .len (.cons (.v 0) .nil)) (.c (.int (8)))) (.cons (.bi .all (.cons (.comp (.cmp .isin (.v 1) (.g "LETTERS")) (.nm 1) (.dat (.v 0)) .non [("sign", 1)]) .nil)) .nil)))) []) .nil)
def f_is_name : List C → M D := evF G_11 fuel 1 2 s_is_name
def G_12 : Gam := (G_11.add "is_name" 1 f_is_name)
def N_is_number : List Str := ["thing"]
def s_is_number : Ss := (.cons (.ret (.and (.cons (.isi (.v 0) .int) (.cons (.not (.isi (.v 0) .bool)) (.cons (.cmp .ge (.v 0) (.c (.int (0)))) .nil)))) []) .nil)
def f_is_number : List C → M D := evF G_12 fuel 1 1 s_is_number
def G_13 : Gam := (G_12.add "is_number" 1 f_is_number)
def N_stands : List Str := ["want", "part", "mark"]
def s_stands : Ss := (.cons (.iff (.cmp .eq (.v 0) (.c (.str "line"))) [] (.cons (.ret (.call "is_number" (.cons (.v 1) .nil)) []) .nil) .nil) (.cons (.iff (.cmp .eq (.v 0) (.c (.str "answer"))) [] (.cons (.ret (.and (.cons (.isi (.v 1) .str) (.cons (.cmp .isin (.v 1) (.g "ANSWERS")) .nil))) []) .nil) .nil) (.cons (.iff (.not (.call "is_name" (.cons (.v 1) .nil))) [] (.cons (.ret (.c (.bool false)) []) .nil) .nil) (.cons (.iff (.cmp .eq (.v 0) (.c (.str "mark"))) [] (.cons (.ret (.cmp .notin (.v 1) (.g "PLACES")) []) .nil) .nil) (.cons (.ret (.or (.cons (.cmp .ne (.v 0) (.c (.str "place"))) (.cons (.cmp .ne (.v 1) (.v 2)) .nil))) []) .nil)))))
def f_stands : List C → M D := evF G_13 fuel 3 3 s_stands
def G_14 : Gam := (G_13.add "stands" 3 f_stands)
def N_is_row : List Str := ["thing", "wants", "want", "part"]
def s_is_row : Ss := (.cons (.iff (.or (.cons (.not (.isi (.v 0) .tuple)) (.cons (.cmp .eq (.bi .len (.cons (.v 0) .nil)) (.c (.int (0)))) .nil))) [] (.cons (.ret (.c (.bool false)) []) .nil) .nil) (.cons (.iff (.or (.cons (.not (.isi (.ix (.v 0) (.c (.int (0)))) .str)) (.cons (.inK true (.ix (.v 0) (.c (.int (0)))) "WANTS") .nil))) [] (.cons (.ret (.c (.bool false)) []) .nil) .nil) (.cons (.asg (.nm 1) (.getK "WANTS" (.ix (.v 0) (.c (.int (0))))) []) (.cons (.iff (.cmp .ne (.bi .len (.cons (.v 0) .nil)) (.bin .add (.bi .len (.cons (.v 1) .nil)) (.c (.int (1))))) [] (.cons (.ret (.c (.bool false)) []) .nil) .nil) (.cons (.ret (.bi .all (.cons (.comp (.call "stands" (.cons (.v 2) (.cons (.v 3) (.cons (.ix (.v 0) (.c (.int (1)))) .nil)))) (.tp [2, 3]) (.zip (.v 1) (.sl (.v 0) (.som (.c (.int (1)))) .non)) .non [("want", 2), ("part", 3)]) .nil)) []) .nil)))))
def f_is_row : List C → M D := evF G_14 fuel 1 4 s_is_row
def G_15 : Gam := (G_14.add "is_row" 1 f_is_row)
def N_line_in : List Str := ["row", "wants"]
def s_line_in : Ss := (.cons (.asg (.nm 1) (.getK "WANTS" (.ix (.v 0) (.c (.int (0))))) []) (.cons (.ret (.ite (.and (.cons (.cmp .gt (.bi .len (.cons (.v 1) .nil)) (.c (.int (0)))) (.cons (.cmp .eq (.ix (.v 1) (.neg (.c (.int (1))))) (.c (.str "line"))) .nil))) (.ix (.v 0) (.neg (.c (.int (1))))) (.c (.none))) []) .nil))
def f_line_in : List C → M D := evF G_15 fuel 1 2 s_line_in
def G_16 : Gam := (G_15.add "line_in" 1 f_line_in)
def N_fits_row : List Str := ["program", "thing", "many", "is_own", "line"]
def s_fits_row : Ss := (.cons (.iff (.or (.cons (.not (.call "is_row" (.cons (.v 1) .nil))) (.cons (.and (.cons (.not (.v 3)) (.cons (.cmp .isin (.ix (.v 1) (.c (.int (0)))) (.g "OWN_WORDS")) .nil))) .nil))) [] (.cons (.ret (.c (.bool false)) []) .nil) .nil) (.cons (.asg (.nm 4) (.call "line_in" (.cons (.v 1) .nil)) []) (.cons (.ret (.and (.cons (.call "fits_names" (.cons (.v 0) (.cons (.v 1) .nil))) (.cons (.or (.cons (.isN (.v 4)) (.cons (.cmp .le (.v 4) (.v 2)) .nil))) .nil))) []) .nil)))
def f_fits_row : List C → M D := evF G_16 fuel 4 5 s_fits_row
def G_17 : Gam := (G_16.add "fits_row" 4 f_fits_row)
def N_is_one_of : List Str := ["thing", "names"]
def s_is_one_of : Ss := (.cons (.ret (.and (.cons (.isi (.v 0) .str) (.cons (.cmp .isin (.v 0) (.v 1)) .nil))) []) .nil)
def f_is_one_of : List C → M D := evF G_17 fuel 2 2 s_is_one_of
def G_18 : Gam := (G_17.add "is_one_of" 2 f_is_one_of)
def N_led_on : List Str := ["row", "least", "by", "line"]
def s_led_on : Ss := (.cons (.asg (.nm 3) (.call "line_in" (.cons (.v 0) .nil)) []) (.cons (.iff (.or (.cons (.isN (.v 3)) (.cons (.cmp .lt (.v 3) (.v 1)) .nil))) [] (.cons (.ret (.v 0) []) .nil) .nil) (.cons (.ret (.bin .add (.sl (.v 0) .non (.som (.neg (.c (.int (1)))))) (.tup (.cons (.bin .add (.v 3) (.v 2)) .nil))) []) .nil)))
def f_led_on : List C → M D := evF G_18 fuel 3 4 s_led_on
def G_19 : Gam := (G_18.add "led_on" 3 f_led_on)
def N_list_of : List Str := ["program", "bell", "one"]
def s_list_of : Ss := (.cons (.iff (.isN (.v 1)) [] (.cons (.ret (.ix (.v 0) (.c (.int (4)))) []) .nil) .nil) (.cons (.ret (.ix (.comp (.ix (.v 2) (.c (.int (3)))) (.nm 2) (.dat (.ix (.v 0) (.c (.int (5))))) (.som (.cmp .eq (.ix (.v 2) (.c (.int (0)))) (.v 1))) [("one", 2)]) (.c (.int (0)))) []) .nil))
def f_list_of : List C → M D := evF G_19 fuel 2 3 s_list_of
def G_20 : Gam := (G_19.add "list_of" 2 f_list_of)
def N_names_of : List Str := ["program", "part", "one"]
def s_names_of : Ss := (.cons (.ret (.comp (.ix (.v 2) (.c (.int (0)))) (.nm 2) (.dat (.ix (.v 0) (.v 1))) .non [("one", 2)]) []) .nil)
def f_names_of : List C → M D := evF G_20 fuel 2 3 s_names_of
def G_21 : Gam := (G_20.add "names_of" 2 f_names_of)
def N_want : List Str := ["is_right", "name", "at"]
def s_want : Ss := (.cons (.iff (.not (.v 0)) [] (.cons (.nev) .nil) .nil) .nil)
def f_want : List C → M D := evF G_21 fuel 3 3 s_want
def G_22 : Gam := (G_21.add "want" 2 fun cs => f_want (cs ++ ([.int (-1)] : List D).map .val))
def N_is_inner_row : List Str := ["thing"]
def s_is_inner_row : Ss := (.cons (.ret (.and (.cons (.call "is_row" (.cons (.v 0) .nil)) (.cons (.cmp .notin (.ix (.v 0) (.c (.int (0)))) (.g "OWN_WORDS")) .nil))) []) .nil)
def f_is_inner_row : List C → M D := evF G_22 fuel 1 1 s_is_inner_row
def G_23 : Gam := (G_22.add "is_inner_row" 1 f_is_inner_row)
def N_is_bell : List Str := ["thing", "one"]
def s_is_bell : Ss := (.cons (.iff (.or (.cons (.not (.isi (.v 0) .tuple)) (.cons (.cmp .ne (.bi .len (.cons (.v 0) .nil)) (.c (.int (4)))) (.cons (.not (.call "is_name" (.cons (.ix (.v 0) (.c (.int (0)))) .nil))) .nil)))) [] (.cons (.ret (.c (.bool false)) []) .nil) .nil) (.cons (.iff (.or (.cons (.not (.isi (.ix (.v 0) (.c (.int (1)))) .bool)) (.cons (.not (.isi (.ix (.v 0) (.c (.int (2)))) .bool)) (.cons (.not (.isi (.ix (.v 0) (.c (.int (3)))) .tuple)) .nil)))) [] (.cons (.ret (.c (.bool false)) []) .nil) .nil) (.cons (.ret (.bi .all (.cons (.comp (.call "is_inner_row" (.cons (.v 1) .nil)) (.nm 1) (.dat (.ix (.v 0) (.c (.int (3))))) .non [("one", 1)]) .nil)) []) .nil)))
def f_is_bell : List C → M D := evF G_23 fuel 1 2 s_is_bell
def G_24 : Gam := (G_23.add "is_bell" 1 f_is_bell)
def N_row_at_fault : List Str := ["program", "rows", "is_own", "m", "one"]
def s_row_at_fault_b1 : Ss := (.cons (.iff (.not (.call "fits_row" (.cons (.v 0) (.cons (.v 4) (.cons (.bi .len (.cons (.v 1) .nil)) (.cons (.v 2) .nil)))))) [] (.cons (.ret (.v 3) []) .nil) .nil) .nil)
def s_row_at_fault : Ss := (.cons (.fr (.tp [3, 4]) (.enm (.v 1)) [] s_row_at_fault_b1) (.cons (.ret (.c (.none)) []) .nil))
def f_row_at_fault : List C → M D := evF G_24 fuel 3 5 s_row_at_fault
def G_25 : Gam := (G_24.add "row_at_fault" 3 f_row_at_fault)
def N_bell_fault : List Str := ["program", "bells", "k", "one", "m"]
def s_bell_fault_b1 : Ss := (.cons (.asg (.nm 4) (.call "row_at_fault" (.cons (.v 0) (.cons (.ix (.v 3) (.c (.int (3)))) (.cons (.c (.bool false)) .nil)))) []) (.cons (.iff (.ntN (.v 4)) [] (.cons (.ret (.tup (.cons (.c (.str "inner")) (.cons (.tup (.cons (.v 2) (.cons (.v 4) .nil))) .nil))) []) .nil) .nil) .nil))
def s_bell_fault_b2 : Ss := (.cons (.iff (.or (.cons (.not (.call "is_bell" (.cons (.v 3) .nil))) (.cons (.and (.cons (.cmp .gt (.v 2) (.c (.int (0)))) (.cons (.cmp .le (.ix (.v 3) (.c (.int (0)))) (.ix (.ix (.v 1) (.bin .sub (.v 2) (.c (.int (1))))) (.c (.int (0))))) .nil))) .nil))) [] (.cons (.ret (.tup (.cons (.c (.str "bell")) (.cons (.v 2) .nil))) []) .nil) .nil) .nil)
def s_bell_fault : Ss := (.cons (.asg (.nm 1) (.ix (.v 0) (.c (.int (5)))) []) (.cons (.fr (.tp [2, 3]) (.enm (.v 1)) [] s_bell_fault_b2) (.cons (.fr (.tp [2, 3]) (.enm (.v 1)) [] s_bell_fault_b1) (.cons (.ret (.c (.none)) []) .nil))))
def f_bell_fault : List C → M D := evF G_25 fuel 1 5 s_bell_fault
def G_26 : Gam := (G_25.add "bell_fault" 1 f_bell_fault)
def N_name_at_fault : List Str := ["names", "k", "one"]
def s_name_at_fault_b1 : Ss := (.cons (.iff (.or (.cons (.not (.call "is_name" (.cons (.v 2) .nil))) (.cons (.and (.cons (.cmp .gt (.v 1) (.c (.int (0)))) (.cons (.cmp .le (.v 2) (.ix (.v 0) (.bin .sub (.v 1) (.c (.int (1)))))) .nil))) .nil))) [] (.cons (.ret (.v 1) []) .nil) .nil) .nil)
def s_name_at_fault : Ss := (.cons (.fr (.tp [1, 2]) (.enm (.v 0)) [] s_name_at_fault_b1) (.cons (.ret (.c (.none)) []) .nil))
def f_name_at_fault : List C → M D := evF G_26 fuel 1 3 s_name_at_fault
def G_27 : Gam := (G_26.add "name_at_fault" 1 f_name_at_fault)
def N_is_right_pair : List Str := ["thing", "seconds"]
def s_is_right_pair : Ss := (.cons (.iff (.or (.cons (.not (.isi (.v 0) .tuple)) (.cons (.cmp .ne (.bi .len (.cons (.v 0) .nil)) (.c (.int (2)))) (.cons (.not (.call "is_name" (.cons (.ix (.v 0) (.c (.int (0)))) .nil))) .nil)))) [] (.cons (.ret (.c (.bool false)) []) .nil) .nil) (.cons (.ret (.and (.cons (.isi (.ix (.v 0) (.c (.int (1)))) .str) (.cons (.cmp .isin (.ix (.v 0) (.c (.int (1)))) (.v 1)) .nil))) []) .nil))
def f_is_right_pair : List C → M D := evF G_27 fuel 2 2 s_is_right_pair
def G_28 : Gam := (G_27.add "is_right_pair" 2 f_is_right_pair)
def N_pair_at_fault : List Str := ["pairs", "seconds", "barred", "k", "one"]
def s_pair_at_fault_b1 : Ss := (.cons (.iff (.or (.cons (.not (.call "is_right_pair" (.cons (.v 4) (.cons (.v 1) .nil)))) (.cons (.cmp .isin (.ix (.v 4) (.c (.int (0)))) (.v 2)) .nil))) [] (.cons (.ret (.v 3) []) .nil) .nil) (.cons (.iff (.and (.cons (.cmp .gt (.v 3) (.c (.int (0)))) (.cons (.cmp .le (.ix (.v 4) (.c (.int (0)))) (.ix (.ix (.v 0) (.bin .sub (.v 3) (.c (.int (1))))) (.c (.int (0))))) .nil))) [] (.cons (.ret (.v 3) []) .nil) .nil) .nil))
def s_pair_at_fault : Ss := (.cons (.fr (.tp [3, 4]) (.enm (.v 0)) [] s_pair_at_fault_b1) (.cons (.ret (.c (.none)) []) .nil))
def f_pair_at_fault : List C → M D := evF G_28 fuel 3 5 s_pair_at_fault
def G_29 : Gam := (G_28.add "pair_at_fault" 3 f_pair_at_fault)
def N_part_fault : List Str := ["program", "part", "word", "k", "name", "kind"]
def s_part_fault : Ss := (.cons (.iff (.or (.cons (.not (.isi (.ix (.v 0) (.v 1)) .tuple)) (.cons (.and (.cons (.cmp .isin (.v 1) (.tup (.cons (.c (.int (0))) (.cons (.c (.int (4))) .nil)))) (.cons (.cmp .eq (.bi .len (.cons (.ix (.v 0) (.v 1)) .nil)) (.c (.int (0)))) .nil))) .nil))) [] (.cons (.ret (.tup (.cons (.c (.str "shape")) (.cons (.neg (.c (.int (1)))) .nil))) []) .nil) .nil) (.cons (.iff (.cmp .eq (.v 1) (.c (.int (5)))) [] (.cons (.ret (.call "bell_fault" (.cons (.v 0) .nil)) []) .nil) .nil) (.cons (.iff (.cmp .eq (.v 1) (.c (.int (0)))) [] (.cons (.par [2, 3] (.cons (.c (.str "stretch")) (.cons (.call "pair_at_fault" (.cons (.ix (.v 0) (.c (.int (0)))) (.cons (.g "STRETCH_KINDS") (.cons (.tup .nil) .nil)))) .nil)) [false, false] []) .nil) (.cons (.iff (.cmp .eq (.v 1) (.c (.int (1)))) [] (.cons (.par [2, 3] (.cons (.c (.str "mark")) (.cons (.call "pair_at_fault" (.cons (.ix (.v 0) (.c (.int (1)))) (.cons (.comp (.v 4) (.tp [4, 5]) (.dat (.ix (.v 0) (.c (.int (0))))) .non [("name", 4), ("kind", 5)]) (.cons (.g "PLACES") .nil)))) .nil)) [false, false] []) .nil) (.cons (.iff (.cmp .eq (.v 1) (.c (.int (4)))) [] (.cons (.par [2, 3] (.cons (.c (.str "row")) (.cons (.call "row_at_fault" (.cons (.v 0) (.cons (.ix (.v 0) (.c (.int (4)))) (.cons (.c (.bool true)) .nil)))) .nil)) [false, false] []) .nil) (.cons (.par [2, 3] (.cons (.ite (.cmp .eq (.v 1) (.c (.int (2)))) (.c (.str "flag")) (.c (.str "tool"))) (.cons (.call "name_at_fault" (.cons (.ix (.v 0) (.v 1)) .nil)) .nil)) [false, false] []) .nil)) .nil)) .nil)) (.cons (.ret (.ite (.ntN (.v 3)) (.tup (.cons (.v 2) (.cons (.v 3) .nil))) (.c (.none))) []) .nil))))
def f_part_fault : List C → M D := evF G_29 fuel 2 6 s_part_fault
def G_30 : Gam := (G_29.add "part_fault" 2 f_part_fault)
def N_program_fault : List Str := ["thing", "part", "fault", "one"]
def s_program_fault_b1 : Ss := (.cons (.asg (.nm 2) (.call "part_fault" (.cons (.v 0) (.cons (.v 1) .nil))) []) (.cons (.iff (.ntN (.v 2)) [] (.cons (.ret (.v 2) []) .nil) .nil) .nil))
def s_program_fault : Ss := (.cons (.iff (.or (.cons (.not (.isi (.v 0) .tuple)) (.cons (.cmp .ne (.bi .len (.cons (.v 0) .nil)) (.c (.int (6)))) .nil))) [] (.cons (.ret (.tup (.cons (.c (.str "shape")) (.cons (.neg (.c (.int (1)))) .nil))) []) .nil) .nil) (.cons (.iff (.or (.cons (.not (.bi .all (.cons (.comp (.isi (.v 3) .tuple) (.nm 3) (.dat (.v 0)) .non [("one", 3)]) .nil))) (.cons (.cmp .eq (.bi .len (.cons (.ix (.v 0) (.c (.int (0)))) .nil)) (.c (.int (0)))) (.cons (.cmp .eq (.bi .len (.cons (.ix (.v 0) (.c (.int (4)))) .nil)) (.c (.int (0)))) .nil)))) [] (.cons (.ret (.tup (.cons (.c (.str "shape")) (.cons (.neg (.c (.int (1)))) .nil))) []) .nil) .nil) (.cons (.fr (.nm 1) (.rng (.c (.int (6)))) [] s_program_fault_b1) (.cons (.ret (.c (.none)) []) .nil))))
def f_program_fault : List C → M D := evF G_30 fuel 1 4 s_program_fault
def G_31 : Gam := (G_30.add "program_fault" 1 f_program_fault)
def N_is_program : List Str := ["thing"]
def s_is_program : Ss := (.cons (.ret (.isN (.call "program_fault" (.cons (.v 0) .nil))) []) .nil)
def f_is_program : List C → M D := evF G_31 fuel 1 1 s_is_program
def G_32 : Gam := (G_31.add "is_program" 1 f_is_program)
def N_want_program : List Str := ["program"]
def s_want_program : Ss := (.cons (.exp (.call "want" (.cons (.call "is_program" (.cons (.v 0) .nil)) (.cons (.c (.str "program")) .nil))) []) .nil)
def f_want_program : List C → M D := evF G_32 fuel 1 1 s_want_program
def G_33 : Gam := (G_32.add "want_program" 1 f_want_program)
def N_with_list : List Str := ["program", "bell", "rows", "bells", "one"]
def s_with_list : Ss := (.cons (.iff (.isN (.v 1)) [] (.cons (.ret (.bin .add (.sl (.v 0) .non (.som (.c (.int (4))))) (.tup (.cons (.v 2) (.cons (.ix (.v 0) (.c (.int (5)))) .nil)))) []) .nil) .nil) (.cons (.asc false 3 (.ite (.cmp .eq (.ix (.v 4) (.c (.int (0)))) (.v 1)) (.bin .add (.sl (.v 4) .non (.som (.c (.int (3))))) (.tup (.cons (.v 2) .nil))) (.v 4)) (.nm 4) (.dat (.ix (.v 0) (.c (.int (5))))) .non [("one", 4)] []) (.cons (.ret (.bin .add (.sl (.v 0) .non (.som (.c (.int (5))))) (.tup (.cons (.bi .tuple (.cons (.v 3) .nil)) .nil))) []) .nil)))
def f_with_list : List C → M D := evF G_33 fuel 3 5 s_with_list
def G_34 : Gam := (G_33.add "with_list" 3 f_with_list)
def N_with_row : List Str := ["program", "k", "row", "bell", "rows", "late", "one"]
def s_with_row : Ss := (.cons (.exp (.call "want_program" (.cons (.v 0) .nil)) []) (.cons (.exp (.call "want" (.cons (.or (.cons (.isN (.v 3)) (.cons (.call "is_one_of" (.cons (.v 3) (.cons (.call "names_of" (.cons (.v 0) (.cons (.c (.int (5))) .nil))) .nil))) .nil))) (.cons (.c (.str "bell")) .nil))) []) (.cons (.asg (.nm 4) (.call "list_of" (.cons (.v 0) (.cons (.v 3) .nil))) []) (.cons (.exp (.call "want" (.cons (.and (.cons (.call "is_number" (.cons (.v 1) .nil)) (.cons (.cmp .le (.v 1) (.bi .len (.cons (.v 4) .nil))) .nil))) (.cons (.c (.str "k")) .nil))) []) (.cons (.exp (.call "want" (.cons (.call "fits_row" (.cons (.v 0) (.cons (.v 2) (.cons (.bin .add (.bi .len (.cons (.v 4) .nil)) (.c (.int (1)))) (.cons (.isN (.v 3)) .nil))))) (.cons (.c (.str "row")) .nil))) []) (.cons (.asc true 5 (.call "led_on" (.cons (.v 6) (.cons (.v 1) (.cons (.c (.int (1))) .nil)))) (.nm 6) (.dat (.v 4)) .non [("one", 6)] []) (.cons (.ins 5 (.v 1) (.v 2) []) (.cons (.ret (.call "with_list" (.cons (.v 0) (.cons (.v 3) (.cons (.bi .tuple (.cons (.v 5) .nil)) .nil)))) [5]) .nil))))))))
def f_with_row : List C → M D := evF G_34 fuel 4 7 s_with_row
def G_35 : Gam := (G_34.addK "with_row" "bell" 3 f_with_row)
def N_without_row : List Str := ["program", "k", "bell", "rows", "late", "one"]
def s_without_row : Ss := (.cons (.exp (.call "want_program" (.cons (.v 0) .nil)) []) (.cons (.exp (.call "want" (.cons (.or (.cons (.isN (.v 2)) (.cons (.call "is_one_of" (.cons (.v 2) (.cons (.call "names_of" (.cons (.v 0) (.cons (.c (.int (5))) .nil))) .nil))) .nil))) (.cons (.c (.str "bell")) .nil))) []) (.cons (.asg (.nm 3) (.call "list_of" (.cons (.v 0) (.cons (.v 2) .nil))) []) (.cons (.exp (.call "want" (.cons (.and (.cons (.call "is_number" (.cons (.v 1) .nil)) (.cons (.cmp .lt (.v 1) (.bi .len (.cons (.v 3) .nil))) (.cons (.or (.cons (.ntN (.v 2)) (.cons (.cmp .gt (.bi .len (.cons (.v 3) .nil)) (.c (.int (1)))) .nil))) .nil)))) (.cons (.c (.str "k")) .nil))) []) (.cons (.asc false 4 (.call "led_on" (.cons (.v 5) (.cons (.bin .add (.v 1) (.c (.int (1)))) (.cons (.neg (.c (.int (1)))) .nil)))) (.nm 5) (.dat (.bin .add (.sl (.v 3) .non (.som (.v 1))) (.sl (.v 3) (.som (.bin .add (.v 1) (.c (.int (1))))) .non))) .non [("one", 5)] []) (.cons (.ret (.call "with_list" (.cons (.v 0) (.cons (.v 2) (.cons (.bi .tuple (.cons (.v 4) .nil)) .nil)))) []) .nil))))))
def f_without_row : List C → M D := evF G_35 fuel 3 6 s_without_row
def G_36 : Gam := (G_35.addK "without_row" "bell" 2 f_without_row)
def N__law_is_step_right : List Str := ["_law_feed_here", "_law_plan", "_law_ring", "_law_rows", "_law_where", "_law_piece", "_law_late"]
def s__law_is_step_right : Ss := (.cons (.asg (.nm 3) (.call "_law_rows_of" (.cons (.v 1) (.cons (.v 2) .nil))) []) (.cons (.par [4, 5] (.cons (.call "_law_draw" (.cons (.v 0) (.cons (.bin .add (.bi .len (.cons (.v 3) .nil)) (.c (.int (1)))) .nil))) (.cons (.call "_law_row" (.cons (.v 0) (.cons (.v 1) (.cons (.bin .add (.bi .len (.cons (.v 3) .nil)) (.c (.int (1)))) (.cons (.isN (.v 2)) .nil))))) .nil)) [false, false] []) (.cons (.asg (.nm 6) (.ckw "with_row" (.cons (.v 1) (.cons (.v 4) (.cons (.v 5) .nil))) "bell" (.v 2)) []) (.cons (.iff (.cmp .ne (.bi .repr (.cons (.v 6) .nil)) (.bi .repr (.cons (.call "_law_put" (.cons (.v 1) (.cons (.v 2) (.cons (.call "_law_put_in" (.cons (.v 3) (.cons (.v 4) (.cons (.v 5) .nil)))) .nil)))) .nil))) [] (.cons (.ret (.c (.none)) []) .nil) .nil) (.cons (.ret (.ite (.cmp .eq (.bi .repr (.cons (.ckw "without_row" (.cons (.v 6) (.cons (.v 4) .nil)) "bell" (.v 2)) .nil)) (.bi .repr (.cons (.v 1) .nil))) (.v 6) (.c (.none))) []) .nil)))))
def f__law_is_step_right : List C → M D := evF G_36 fuel 3 7 s__law_is_step_right
def G_37 : Gam := (G_36.add "_law_is_step_right" 3 f__law_is_step_right)
def N__law_left_out : List Str := ["_law_rows", "_law_where", "_law_lot", "_law_behind", "_law_found", "_law_words", "_law_own", "_law_goal"]
def s__law_left_out_b1 : Ss := (.cons (.app 4 (.tup (.cons (.v 5) (.cons (.v 6) (.cons (.ite (.and (.cons (.ntN (.v 7)) (.cons (.cmp .eq (.v 7) (.ix (.ix (.v 2) (.v 1)) (.c (.int (1))))) .nil))) (.v 3) (.v 7)) .nil)))) []) .nil)
def s__law_left_out : Ss := (.cons (.asg (.nm 2) (.call "_law_tagged" (.cons (.bi .list (.cons (.v 0) .nil)) (.cons (.lrg (.bi .len (.cons (.v 0) .nil))) .nil))) []) (.cons (.asg (.nm 3) (.ix (.bin .add (.comp (.v 6) (.tp [5, 6, 7]) (.dat (.v 2)) .non [("_law_words", 5), ("_law_own", 6), ("_law_goal", 7)]) (.lst (.cons (.c (.str "behind")) .nil))) (.bin .add (.v 1) (.c (.int (1))))) []) (.cons (.new 4 (.lst .nil) []) (.cons (.fr (.tp [5, 6, 7]) (.dat (.bin .add (.sl (.v 2) .non (.som (.v 1))) (.sl (.v 2) (.som (.bin .add (.v 1) (.c (.int (1))))) .non))) [] s__law_left_out_b1) (.cons (.ret (.call "_law_untagged" (.cons (.v 4) .nil)) [4]) .nil)))))
def f__law_left_out : List C → M D := evF G_37 fuel 2 8 s__law_left_out
def G_38 : Gam := (G_37.add "_law_left_out" 2 f__law_left_out)
def N__law_pool : List Str := ["_law_some"]
def s__law_pool : Ss := (.cons (.asg (.nm 0) (.lst (.cons (.lst (.cons (.c (.str "m")) (.cons (.c (.str "n")) (.cons (.c (.str "o")) (.cons (.c (.str "p")) (.cons (.c (.str "q")) .nil)))))) (.cons (.lst (.cons (.c (.str "a")) (.cons (.c (.str "ab")) (.cons (.c (.str "abc")) (.cons (.c (.str "b")) (.cons (.c (.str "ba")) .nil)))))) .nil))) []) (.cons (.asg (.nm 0) (.bin .add (.v 0) (.lst (.cons (.lst (.cons (.c (.str "start")) (.cons (.c (.str "end")) (.cons (.c (.str "stop")) (.cons (.c (.str "call")) (.cons (.c (.str "whole")) .nil)))))) .nil))) []) (.cons (.asg (.nm 0) (.bin .add (.v 0) (.lst (.cons (.lst (.cons (.c (.str "z")) (.cons (.c (.str "zz")) (.cons (.c (.str "zzzzzzza")) (.cons (.c (.str "zzzzzzzz")) (.cons (.c (.str "abcdefgh")) .nil)))))) .nil))) []) (.cons (.asg (.nm 0) (.bin .add (.v 0) (.lst (.cons (.lst (.cons (.c (.str "counted")) (.cons (.c (.str "mute")) (.cons (.c (.str "timed")) (.cons (.c (.str "again")) (.cons (.c (.str "keeps")) .nil)))))) .nil))) []) (.cons (.asg (.nm 0) (.bin .add (.v 0) (.lst (.cons (.lst (.cons (.c (.str "text")) (.cons (.c (.str "nap")) (.cons (.c (.str "mark")) (.cons (.c (.str "flag")) (.cons (.c (.str "tool")) .nil)))))) .nil))) []) (.cons (.ret (.bin .add (.v 0) (.lst (.cons (.lst (.cons (.c (.str "stretch")) (.cons (.c (.str "row")) (.cons (.c (.str "bell")) (.cons (.c (.str "told")) (.cons (.c (.str "gone")) .nil)))))) .nil))) []) .nil))))))
def f__law_pool : List C → M D := evF G_38 fuel 0 1 s__law_pool
def G_39 : Gam := (G_38.add "_law_pool" 0 f__law_pool)
def N__law_labels : List Str := ["_law_feed_here", "_law_many", "_law_is_mark", "_law_pool_here", "_law_where", "_law_one"]
def s__law_labels : Ss := (.cons (.par [3, 4] (.cons (.call "_law_pick" (.cons (.v 0) (.cons (.call "_law_pool" .nil) .nil))) (.cons (.call "_law_draw" (.cons (.v 0) (.cons (.c (.int (5))) .nil))) .nil)) [false, false] []) (.cons (.asc false 3 (.v 5) (.nm 5) (.dat (.bin .add (.sl (.v 3) (.som (.v 4)) .non) (.sl (.v 3) .non (.som (.v 4))))) (.som (.or (.cons (.not (.v 2)) (.cons (.cmp .notin (.v 5) (.tup (.cons (.c (.str "start")) (.cons (.c (.str "end")) (.cons (.c (.str "stop")) .nil))))) .nil)))) [("_law_one", 5)] []) (.cons (.ret (.bi .sorted (.cons (.sl (.bin .add (.v 3) (.lst (.cons (.c (.str "mx")) (.cons (.c (.str "my")) (.cons (.c (.str "mz")) .nil))))) .non (.som (.v 1))) .nil)) []) .nil)))
def f__law_labels : List C → M D := evF G_39 fuel 3 6 s__law_labels
def G_40 : Gam := (G_39.add "_law_labels" 3 f__law_labels)
def N__law_known : List Str := ["_law_feed_here", "_law_stretches", "_law_marks", "_law_one", "_law_flags", "_law_tools"]
def s__law_known_b1 : Ss := (.cons (.app 2 (.tup (.cons (.v 3) (.cons (.ix (.call "_law_pick" (.cons (.v 0) (.cons (.v 1) .nil))) (.c (.int (0)))) .nil))) [1]) .nil)
def s__law_known_b2 : Ss := (.cons (.app 1 (.tup (.cons (.v 3) (.cons (.call "_law_pick" (.cons (.v 0) (.cons (.lst (.cons (.c (.str "counted")) (.cons (.c (.str "mute")) (.cons (.c (.str "timed")) .nil)))) .nil))) .nil))) []) .nil)
def s__law_known : Ss := (.cons (.par [1, 2] (.cons (.lst .nil) (.cons (.lst .nil) .nil)) [true, true] []) (.cons (.fr (.nm 3) (.dat (.call "_law_labels" (.cons (.v 0) (.cons (.bin .add (.c (.int (1))) (.call "_law_draw" (.cons (.v 0) (.cons (.c (.int (3))) .nil)))) (.cons (.c (.bool false)) .nil))))) [] s__law_known_b2) (.cons (.fr (.nm 3) (.dat (.call "_law_labels" (.cons (.v 0) (.cons (.call "_law_draw" (.cons (.v 0) (.cons (.c (.int (4))) .nil))) (.cons (.c (.bool true)) .nil))))) [] s__law_known_b1) (.cons (.asg (.nm 4) (.call "_law_labels" (.cons (.v 0) (.cons (.call "_law_draw" (.cons (.v 0) (.cons (.c (.int (3))) .nil))) (.cons (.c (.bool false)) .nil)))) []) (.cons (.asg (.nm 5) (.call "_law_labels" (.cons (.v 0) (.cons (.call "_law_draw" (.cons (.v 0) (.cons (.c (.int (3))) .nil))) (.cons (.c (.bool false)) .nil)))) []) (.cons (.ret (.tup (.cons (.bi .tuple (.cons (.v 1) .nil)) (.cons (.bi .tuple (.cons (.v 2) .nil)) (.cons (.bi .tuple (.cons (.v 4) .nil)) (.cons (.bi .tuple (.cons (.v 5) .nil)) .nil))))) [1, 2]) .nil))))))
def f__law_known : List C → M D := evF G_40 fuel 1 6 s__law_known
def G_41 : Gam := (G_40.add "_law_known" 1 f__law_known)
def N__law_program : List Str := ["_law_feed_here", "_law_known_here", "_law_many", "_law_rows", "_law_bells", "_law_name", "_law_inner", "_law_where"]
def s__law_program_b1 : Ss := (.cons (.asg (.nm 2) (.call "_law_draw" (.cons (.v 0) (.cons (.c (.int (4))) .nil))) []) (.cons (.asg (.nm 6) (.bi .tuple (.cons (.comp (.call "_law_row" (.cons (.v 0) (.cons (.v 1) (.cons (.v 2) (.cons (.c (.bool false)) .nil))))) (.nm 7) (.rng (.v 2)) .non [("_law_where", 7)]) .nil)) []) (.cons (.app 4 (.tup (.cons (.v 5) (.cons (.cmp .eq (.call "_law_draw" (.cons (.v 0) (.cons (.c (.int (2))) .nil))) (.c (.int (0)))) (.cons (.cmp .eq (.call "_law_draw" (.cons (.v 0) (.cons (.c (.int (2))) .nil))) (.c (.int (0)))) (.cons (.v 6) .nil))))) []) .nil)))
def s__law_program : Ss := (.cons (.par [1, 2] (.cons (.call "_law_known" (.cons (.v 0) .nil)) (.cons (.bin .add (.c (.int (1))) (.call "_law_draw" (.cons (.v 0) (.cons (.c (.int (6))) .nil)))) .nil)) [false, false] []) (.cons (.par [3, 4] (.cons (.bi .tuple (.cons (.comp (.call "_law_row" (.cons (.v 0) (.cons (.v 1) (.cons (.v 2) (.cons (.c (.bool true)) .nil))))) (.nm 7) (.rng (.v 2)) .non [("_law_where", 7)]) .nil)) (.cons (.lst .nil) .nil)) [false, true] []) (.cons (.fr (.nm 5) (.dat (.call "_law_labels" (.cons (.v 0) (.cons (.call "_law_draw" (.cons (.v 0) (.cons (.c (.int (3))) .nil))) (.cons (.c (.bool false)) .nil))))) [] s__law_program_b1) (.cons (.ret (.bin .add (.v 1) (.tup (.cons (.v 3) (.cons (.bi .tuple (.cons (.v 4) .nil)) .nil)))) [4]) .nil))))
def f__law_program : List C → M D := evF G_41 fuel 1 8 s__law_program
def G_42 : Gam := (G_41.add "_law_program" 1 f__law_program)
def N_law : List Str := ["_law_script", "_law_feed_here", "_law_lap", "_law_plan", "_law_names", "_law_turn", "_law_ring", "_law_rows", "_law_where", "_law_late", "_law_one"]
def s_law_b1 : Ss := (.cons (.asg (.nm 6) (.call "_law_pick" (.cons (.v 1) (.cons (.v 4) .nil))) []) (.cons (.asg (.nm 7) (.call "_law_rows_of" (.cons (.v 3) (.cons (.v 6) .nil))) []) (.cons (.iff (.or (.cons (.cmp .gt (.call "_law_draw" (.cons (.v 1) (.cons (.c (.int (3))) .nil))) (.c (.int (0)))) (.cons (.cmp .eq (.bi .len (.cons (.v 7) .nil)) (.bi .int (.cons (.isN (.v 6)) .nil))) .nil))) [] (.cons (.asg (.nm 3) (.call "_law_is_step_right" (.cons (.v 1) (.cons (.v 3) (.cons (.v 6) .nil)))) []) (.cons (.iff (.isN (.v 3)) [] (.cons (.ret (.c (.bool false)) []) .nil) .nil) .nil)) (.cons (.asg (.nm 8) (.call "_law_draw" (.cons (.v 1) (.cons (.bi .len (.cons (.v 7) .nil)) .nil))) []) (.cons (.asg (.nm 9) (.ckw "without_row" (.cons (.v 3) (.cons (.v 8) .nil)) "bell" (.v 6)) []) (.cons (.iff (.cmp .ne (.bi .repr (.cons (.v 9) .nil)) (.bi .repr (.cons (.call "_law_put" (.cons (.v 3) (.cons (.v 6) (.cons (.call "_law_left_out" (.cons (.v 7) (.cons (.v 8) .nil))) .nil)))) .nil))) [] (.cons (.ret (.c (.bool false)) []) .nil) .nil) (.cons (.asg (.nm 3) (.v 9) []) .nil))))) .nil)))
def s_law_b2 : Ss := (.cons (.asg (.nm 3) (.call "_law_program" (.cons (.v 1) .nil)) []) (.cons (.asg (.nm 4) (.bin .add (.lst (.cons (.c (.none)) (.cons (.c (.none)) .nil))) (.comp (.ix (.v 10) (.c (.int (0)))) (.nm 10) (.dat (.ix (.v 3) (.c (.int (5))))) .non [("_law_one", 10)])) []) (.cons (.fr (.nm 5) (.rng (.c (.int (6)))) [] s_law_b1) .nil)))
def s_law : Ss := (.cons (.fr (.nm 2) (.rng (.c (.int (3)))) [] s_law_b2) (.cons (.ret (.c (.bool true)) []) .nil))
def law_ (s : Fd) : Option (Fl × Fd) := evSs G_42 fuel s_law (.emp :: .feed :: List.replicate 9 .emp) s
theorem at_3__law_lined_1 : G_3.fn "_law_lined" 1 = some f__law_lined := by kernel_rfl
theorem at_5__law_lined_1 : G_5.fn "_law_lined" 1 = some f__law_lined := by kernel_rfl
theorem at_5__law_tagged_2 : G_5.fn "_law_tagged" 2 = some f__law_tagged := by kernel_rfl
theorem at_5__law_untagged_1 : G_5.fn "_law_untagged" 1 = some f__law_untagged := by kernel_rfl
theorem at_6__law_draw_2 : G_6.fn "_law_draw" 2 = some f__law_draw := by kernel_rfl
theorem at_7__law_draw_2 : G_7.fn "_law_draw" 2 = some f__law_draw := by kernel_rfl
theorem at_7__law_pick_2 : G_7.fn "_law_pick" 2 = some f__law_pick := by kernel_rfl
theorem at_10_stretch_in_2 : G_10.fn "stretch_in" 2 = some f_stretch_in := by kernel_rfl
theorem con_10_PLACES : G_10.con "PLACES" = some (.tuple [.str "start", .str "end", .str "stop"]) := by kernel_rfl
theorem con_11_LETTERS : G_11.con "LETTERS" = some (.str "abcdefghijklmnopqrstuvwxyz") := by kernel_rfl
theorem at_13_is_name_1 : G_13.fn "is_name" 1 = some f_is_name := by kernel_rfl
theorem at_13_is_number_1 : G_13.fn "is_number" 1 = some f_is_number := by kernel_rfl
theorem con_13_PLACES : G_13.con "PLACES" = some (.tuple [.str "start", .str "end", .str "stop"]) := by kernel_rfl
theorem con_13_ANSWERS : G_13.con "ANSWERS" = some (.tuple [.str "whole", .str "part", .str "broken"]) := by kernel_rfl
theorem at_14_stands_3 : G_14.fn "stands" 3 = some f_stands := by kernel_rfl
theorem tab_14_WANTS : G_14.tab "WANTS" = some t_WANTS := by kernel_rfl
theorem tab_15_WANTS : G_15.tab "WANTS" = some t_WANTS := by kernel_rfl
theorem at_16_fits_names_2 : G_16.fn "fits_names" 2 = some f_fits_names := by kernel_rfl
theorem at_16_is_row_1 : G_16.fn "is_row" 1 = some f_is_row := by kernel_rfl
theorem at_16_line_in_1 : G_16.fn "line_in" 1 = some f_line_in := by kernel_rfl
theorem con_16_OWN_WORDS : G_16.con "OWN_WORDS" = some (.tuple [.str "wait", .str "end"]) := by kernel_rfl
theorem at_18_line_in_1 : G_18.fn "line_in" 1 = some f_line_in := by kernel_rfl
theorem at_22_is_row_1 : G_22.fn "is_row" 1 = some f_is_row := by kernel_rfl
theorem con_22_OWN_WORDS : G_22.con "OWN_WORDS" = some (.tuple [.str "wait", .str "end"]) := by kernel_rfl
theorem at_23_is_inner_row_1 : G_23.fn "is_inner_row" 1 = some f_is_inner_row := by kernel_rfl
theorem at_23_is_name_1 : G_23.fn "is_name" 1 = some f_is_name := by kernel_rfl
theorem at_24_fits_row_4 : G_24.fn "fits_row" 4 = some f_fits_row := by kernel_rfl
theorem at_25_is_bell_1 : G_25.fn "is_bell" 1 = some f_is_bell := by kernel_rfl
theorem at_25_row_at_fault_3 : G_25.fn "row_at_fault" 3 = some f_row_at_fault := by kernel_rfl
theorem at_26_is_name_1 : G_26.fn "is_name" 1 = some f_is_name := by kernel_rfl
theorem at_27_is_name_1 : G_27.fn "is_name" 1 = some f_is_name := by kernel_rfl
theorem at_28_is_right_pair_2 : G_28.fn "is_right_pair" 2 = some f_is_right_pair := by kernel_rfl
theorem at_29_bell_fault_1 : G_29.fn "bell_fault" 1 = some f_bell_fault := by kernel_rfl
theorem at_29_name_at_fault_1 : G_29.fn "name_at_fault" 1 = some f_name_at_fault := by kernel_rfl
theorem at_29_pair_at_fault_3 : G_29.fn "pair_at_fault" 3 = some f_pair_at_fault := by kernel_rfl
theorem at_29_row_at_fault_3 : G_29.fn "row_at_fault" 3 = some f_row_at_fault := by kernel_rfl
theorem con_29_STRETCH_KINDS : G_29.con "STRETCH_KINDS" = some (.tuple [.str "counted", .str "mute", .str "timed"]) := by kernel_rfl
theorem con_29_PLACES : G_29.con "PLACES" = some (.tuple [.str "start", .str "end", .str "stop"]) := by kernel_rfl
theorem at_30_part_fault_2 : G_30.fn "part_fault" 2 = some f_part_fault := by kernel_rfl
theorem at_31_program_fault_1 : G_31.fn "program_fault" 1 = some f_program_fault := by kernel_rfl
theorem at_32_is_program_1 : G_32.fn "is_program" 1 = some f_is_program := by kernel_rfl
theorem at_32_want_2 : G_32.fn "want" 2 = some fun cs => f_want (cs ++ ([.int (-1)] : List D).map .val) := by kernel_rfl
theorem at_34_fits_row_4 : G_34.fn "fits_row" 4 = some f_fits_row := by kernel_rfl
theorem at_34_is_number_1 : G_34.fn "is_number" 1 = some f_is_number := by kernel_rfl
theorem at_34_is_one_of_2 : G_34.fn "is_one_of" 2 = some f_is_one_of := by kernel_rfl
theorem at_34_led_on_3 : G_34.fn "led_on" 3 = some f_led_on := by kernel_rfl
theorem at_34_list_of_2 : G_34.fn "list_of" 2 = some f_list_of := by kernel_rfl
theorem at_34_names_of_2 : G_34.fn "names_of" 2 = some f_names_of := by kernel_rfl
theorem at_34_want_2 : G_34.fn "want" 2 = some fun cs => f_want (cs ++ ([.int (-1)] : List D).map .val) := by kernel_rfl
theorem at_34_want_program_1 : G_34.fn "want_program" 1 = some f_want_program := by kernel_rfl
theorem at_34_with_list_3 : G_34.fn "with_list" 3 = some f_with_list := by kernel_rfl
theorem at_35_is_number_1 : G_35.fn "is_number" 1 = some f_is_number := by kernel_rfl
theorem at_35_is_one_of_2 : G_35.fn "is_one_of" 2 = some f_is_one_of := by kernel_rfl
theorem at_35_led_on_3 : G_35.fn "led_on" 3 = some f_led_on := by kernel_rfl
theorem at_35_list_of_2 : G_35.fn "list_of" 2 = some f_list_of := by kernel_rfl
theorem at_35_names_of_2 : G_35.fn "names_of" 2 = some f_names_of := by kernel_rfl
theorem at_35_want_2 : G_35.fn "want" 2 = some fun cs => f_want (cs ++ ([.int (-1)] : List D).map .val) := by kernel_rfl
theorem at_35_want_program_1 : G_35.fn "want_program" 1 = some f_want_program := by kernel_rfl
theorem at_35_with_list_3 : G_35.fn "with_list" 3 = some f_with_list := by kernel_rfl
theorem at_36__law_draw_2 : G_36.fn "_law_draw" 2 = some f__law_draw := by kernel_rfl
theorem at_36__law_put_3 : G_36.fn "_law_put" 3 = some f__law_put := by kernel_rfl
theorem at_36__law_put_in_3 : G_36.fn "_law_put_in" 3 = some f__law_put_in := by kernel_rfl
theorem at_36__law_row_4 : G_36.fn "_law_row" 4 = some f__law_row := by kernel_rfl
theorem at_36__law_rows_of_2 : G_36.fn "_law_rows_of" 2 = some f__law_rows_of := by kernel_rfl
theorem at_36_with_row_bell : G_36.fk "with_row" "bell" 3 = some f_with_row := by kernel_rfl
theorem at_36_without_row_bell : G_36.fk "without_row" "bell" 2 = some f_without_row := by kernel_rfl
theorem at_37__law_tagged_2 : G_37.fn "_law_tagged" 2 = some f__law_tagged := by kernel_rfl
theorem at_37__law_untagged_1 : G_37.fn "_law_untagged" 1 = some f__law_untagged := by kernel_rfl
theorem at_39__law_draw_2 : G_39.fn "_law_draw" 2 = some f__law_draw := by kernel_rfl
theorem at_39__law_pick_2 : G_39.fn "_law_pick" 2 = some f__law_pick := by kernel_rfl
theorem at_39__law_pool_0 : G_39.fn "_law_pool" 0 = some f__law_pool := by kernel_rfl
theorem at_40__law_draw_2 : G_40.fn "_law_draw" 2 = some f__law_draw := by kernel_rfl
theorem at_40__law_labels_3 : G_40.fn "_law_labels" 3 = some f__law_labels := by kernel_rfl
theorem at_40__law_pick_2 : G_40.fn "_law_pick" 2 = some f__law_pick := by kernel_rfl
theorem at_41__law_draw_2 : G_41.fn "_law_draw" 2 = some f__law_draw := by kernel_rfl
theorem at_41__law_known_1 : G_41.fn "_law_known" 1 = some f__law_known := by kernel_rfl
theorem at_41__law_labels_3 : G_41.fn "_law_labels" 3 = some f__law_labels := by kernel_rfl
theorem at_41__law_row_4 : G_41.fn "_law_row" 4 = some f__law_row := by kernel_rfl
theorem at_42__law_draw_2 : G_42.fn "_law_draw" 2 = some f__law_draw := by kernel_rfl
theorem at_42__law_is_step_right_3 : G_42.fn "_law_is_step_right" 3 = some f__law_is_step_right := by kernel_rfl
theorem at_42__law_left_out_2 : G_42.fn "_law_left_out" 2 = some f__law_left_out := by kernel_rfl
theorem at_42__law_pick_2 : G_42.fn "_law_pick" 2 = some f__law_pick := by kernel_rfl
theorem at_42__law_program_1 : G_42.fn "_law_program" 1 = some f__law_program := by kernel_rfl
theorem at_42__law_put_3 : G_42.fn "_law_put" 3 = some f__law_put := by kernel_rfl
theorem at_42__law_rows_of_2 : G_42.fn "_law_rows_of" 2 = some f__law_rows_of := by kernel_rfl
theorem at_42_without_row_bell : G_42.fk "without_row" "bell" 2 = some f_without_row := by kernel_rfl
end Tx

namespace Qv.K5
open PySem Tx
/-! ### names, numbers -/
def letter (c : Nat) : Bool := decide (c ∈ ("abcdefghijklmnopqrstuvwxyz" : Str).cps.toList)
def nameOk (x : Str) : Bool := decide (1 ≤ (x.length : Int)) && (decide ((x.length : Int) ≤ 8) && x.cps.toList.all letter)
theorem n_is_number (l : Nat) : f_is_number [.val (.int l)] = ret (.bool true) := by
  have h : decide ((0 : Int) ≤ (l : Int)) = true := decide_eq_true (by omega)
  unfold f_is_number evF s_is_number
  simp -implicitDefEqProofs only [evSs, evS, evE, evAnd, evOr, evL, evA, evO, evC, evI, froz, thaw_nil, thaw, behind_nil, behind_int, behind_bool, behind_str, behind_none, behind_tup, behind_lst, isFeed, asB, asI, isNone_none, isNone_bool, isNone_int, isNone_str, isNone_tup, isNone_lst, mb_ret, mb_bad, mb_mb, ofO_ret, ofO_bad, List.getElem?_cons_zero, List.getElem?_cons_succ, List.cons_append, List.nil_append, List.replicate, List.length_cons, List.length_nil, List.set_cons_zero, List.set_cons_succ, bindT_nm, bindT_tp, setAll, setO, Option.map_some, Option.map_none, List.map_cons, List.map_nil, wipeR, ite_tt, ite_ft, if_true, if_false, Nat.reduceAdd, Nat.reduceSub, Bool.false_eq_true, tyD, cop_ge_int, h, Bool.not_false]
theorem n_is_name {x : Str} (h : nameOk x = true) : f_is_name [.val (.str x)] = ret (.bool true) := by
  obtain ⟨h1, h2⟩ := and2 h
  obtain ⟨h3, h4⟩ := and2 h2
  have hl : lenOk x.length = true := decide_eq_true (by have := of_decide_eq_true h3; omega)
  unfold f_is_name evF s_is_name
  simp -implicitDefEqProofs only [evSs, evS, evE, evAnd, evOr, evL, evA, evO, evC, evI, froz, thaw_nil, thaw, behind_nil, behind_int, behind_bool, behind_str, behind_none, behind_tup, behind_lst, isFeed, asB, asI, isNone_none, isNone_bool, isNone_int, isNone_str, isNone_tup, isNone_lst, mb_ret, mb_bad, mb_mb, ofO_ret, ofO_bad, List.getElem?_cons_zero, List.getElem?_cons_succ, List.cons_append, List.nil_append, List.replicate, List.length_cons, List.length_nil, List.set_cons_zero, List.set_cons_succ, bindT_nm, bindT_tp, setAll, setO, Option.map_some, Option.map_none, List.map_cons, List.map_nil, wipeR, ite_tt, ite_ft, if_true, if_false, Nat.reduceAdd, Nat.reduceSub, Bool.false_eq_true, tyD, bi_len_s, hl, cop_le_int, h1, h3, con_11_LETTERS, itemsOf, strItems]
  rw [compL_of (g := fun c => .bool (letter c)) fun c _ => rfl]
  have hl2 : lenOk (x.cps.toList.map fun c => PyData.bool (letter c)).length = true := by
    rw [List.length_map]
    exact hl
  simp -implicitDefEqProofs only [evSs, evS, evE, evAnd, evOr, evL, evA, evO, evC, evI, froz, thaw_nil, thaw, behind_nil, behind_int, behind_bool, behind_str, behind_none, behind_tup, behind_lst, isFeed, asB, asI, isNone_none, isNone_bool, isNone_int, isNone_str, isNone_tup, isNone_lst, mb_ret, mb_bad, mb_mb, ofO_ret, ofO_bad, List.getElem?_cons_zero, List.getElem?_cons_succ, List.cons_append, List.nil_append, List.replicate, List.length_cons, List.length_nil, List.set_cons_zero, List.set_cons_succ, bindT_nm, bindT_tp, setAll, setO, Option.map_some, Option.map_none, List.map_cons, List.map_nil, wipeR, ite_tt, ite_ft, if_true, if_false, Nat.reduceAdd, Nat.reduceSub, Bool.false_eq_true, hl2, bi_all_map, h4]
/-! ### rows -/
inductive Row where
  | call (m : Str)
  | set (m p : Str)
  | gone (m : Str) (l : Nat)
  | told (a : Str) (l : Nat)
  | rais (f : Str)
  | lower (f : Str)
  | ask (f : Str) (l : Nat)
  | go (l : Nat)
  | use (t : Str)
  | wait (f : Str)
  | fin
def Row.enc : Row → D
  | .call m => .tuple [.str "call", .str m]
  | .set m p => .tuple [.str "set", .str m, .str p]
  | .gone m l => .tuple [.str "gone", .str m, .int l]
  | .told a l => .tuple [.str "told", .str a, .int l]
  | .rais f => .tuple [.str "raise", .str f]
  | .lower f => .tuple [.str "lower", .str f]
  | .ask f l => .tuple [.str "ask", .str f, .int l]
  | .go l => .tuple [.str "go", .int l]
  | .use t => .tuple [.str "use", .str t]
  | .wait f => .tuple [.str "wait", .str f]
  | .fin => .tuple [.str "end"]
def place (x : Str) : Bool := decide (x = "start") || (decide (x = "end") || decide (x = "stop"))
def isAnswer (x : Str) : Bool := decide (x = "whole") || (decide (x = "part") || decide (x = "broken"))
theorem st_line (l : Nat) (m : D) : f_stands [.val (.str "line"), .val (.int l), .val m] = ret (.bool true) := by
  unfold f_stands evF s_stands
  simp -implicitDefEqProofs only [evSs, evS, evE, evAnd, evOr, evL, evA, evO, evC, evI, froz, thaw_nil, thaw, behind_nil, behind_int, behind_bool, behind_str, behind_none, behind_tup, behind_lst, isFeed, asB, asI, isNone_none, isNone_bool, isNone_int, isNone_str, isNone_tup, isNone_lst, mb_ret, mb_bad, mb_mb, ofO_ret, ofO_bad, List.getElem?_cons_zero, List.getElem?_cons_succ, List.cons_append, List.nil_append, List.replicate, List.length_cons, List.length_nil, List.set_cons_zero, List.set_cons_succ, bindT_nm, bindT_tp, setAll, setO, Option.map_some, Option.map_none, List.map_cons, List.map_nil, wipeR, ite_tt, ite_ft, if_true, if_false, Nat.reduceAdd, Nat.reduceSub, Bool.false_eq_true, cop_eq_str, ofS_inj, decide_true, at_13_is_number_1, n_is_number]
theorem st_name {x : Str} (h : nameOk x = true) (m : D) : f_stands [.val (.str "name"), .val (.str x), .val m] = ret (.bool true) := by
  unfold f_stands evF s_stands
  simp -implicitDefEqProofs only [evSs, evS, evE, evAnd, evOr, evL, evA, evO, evC, evI, froz, thaw_nil, thaw, behind_nil, behind_int, behind_bool, behind_str, behind_none, behind_tup, behind_lst, isFeed, asB, asI, isNone_none, isNone_bool, isNone_int, isNone_str, isNone_tup, isNone_lst, mb_ret, mb_bad, mb_mb, ofO_ret, ofO_bad, List.getElem?_cons_zero, List.getElem?_cons_succ, List.cons_append, List.nil_append, List.replicate, List.length_cons, List.length_nil, List.set_cons_zero, List.set_cons_succ, bindT_nm, bindT_tp, setAll, setO, Option.map_some, Option.map_none, List.map_cons, List.map_nil, wipeR, ite_tt, ite_ft, if_true, if_false, Nat.reduceAdd, Nat.reduceSub, Bool.false_eq_true, cop_eq_str, cop_ne_str, ofS_inj, decide_true, at_13_is_name_1, n_is_name h, String.reduceEq, decide_false, Bool.not_true, Bool.not_false]
theorem beq_str (a b : Str) : (a == b) = decide (b = a) := by
  by_cases h : b = a
  · rw [decide_eq_true h, h, beq_self_eq_true]
  · rw [decide_eq_false h, beq_eq_false_iff_ne]
    exact fun z => h z.symm
theorem in_places (x : Str) : inD (.str x) (.tuple [.str "start", .str "end", .str "stop"]) = some (place x) := by
  show some ([PyData.str "start", .str "end", .str "stop"].any fun y => eqF y (.str x)) = _
  simp only [List.any_cons, List.any_nil, eqF_str, beq_str, Bool.or_false, place]
theorem in_answers (x : Str) : inD (.str x) (.tuple [.str "whole", .str "part", .str "broken"]) = some (isAnswer x) := by
  show some ([PyData.str "whole", .str "part", .str "broken"].any fun y => eqF y (.str x)) = _
  simp only [List.any_cons, List.any_nil, eqF_str, beq_str, Bool.or_false, isAnswer]
theorem st_mark {x : Str} (h : nameOk x = true) (hp : place x = false) (m : D) : f_stands [.val (.str "mark"), .val (.str x), .val m] = ret (.bool true) := by
  unfold f_stands evF s_stands
  simp -implicitDefEqProofs only [evSs, evS, evE, evAnd, evOr, evL, evA, evO, evC, evI, froz, thaw_nil, thaw, behind_nil, behind_int, behind_bool, behind_str, behind_none, behind_tup, behind_lst, isFeed, asB, asI, isNone_none, isNone_bool, isNone_int, isNone_str, isNone_tup, isNone_lst, mb_ret, mb_bad, mb_mb, ofO_ret, ofO_bad, List.getElem?_cons_zero, List.getElem?_cons_succ, List.cons_append, List.nil_append, List.replicate, List.length_cons, List.length_nil, List.set_cons_zero, List.set_cons_succ, bindT_nm, bindT_tp, setAll, setO, Option.map_some, Option.map_none, List.map_cons, List.map_nil, wipeR, ite_tt, ite_ft, if_true, if_false, Nat.reduceAdd, Nat.reduceSub, Bool.false_eq_true, cop_eq_str, cop_ne_str, cop_nin, ofS_inj, decide_true, at_13_is_name_1, n_is_name h, String.reduceEq, decide_false, Bool.not_true, Bool.not_false, con_13_PLACES, in_places, hp]
theorem st_answer {x : Str} (h : isAnswer x = true) (m : D) : f_stands [.val (.str "answer"), .val (.str x), .val m] = ret (.bool true) := by
  unfold f_stands evF s_stands
  simp -implicitDefEqProofs only [evSs, evS, evE, evAnd, evOr, evL, evA, evO, evC, evI, froz, thaw_nil, thaw, behind_nil, behind_int, behind_bool, behind_str, behind_none, behind_tup, behind_lst, isFeed, asB, asI, isNone_none, isNone_bool, isNone_int, isNone_str, isNone_tup, isNone_lst, mb_ret, mb_bad, mb_mb, ofO_ret, ofO_bad, List.getElem?_cons_zero, List.getElem?_cons_succ, List.cons_append, List.nil_append, List.replicate, List.length_cons, List.length_nil, List.set_cons_zero, List.set_cons_succ, bindT_nm, bindT_tp, setAll, setO, Option.map_some, Option.map_none, List.map_cons, List.map_nil, wipeR, ite_tt, ite_ft, if_true, if_false, Nat.reduceAdd, Nat.reduceSub, Bool.false_eq_true, tyD, cop_eq_str, cop_ne_str, cop_in, ofS_inj, decide_true, String.reduceEq, decide_false, Bool.not_true, Bool.not_false, con_13_ANSWERS, in_answers, h]
theorem st_place {x m : Str} (h : nameOk x = true) (hn : x ≠ m) : f_stands [.val (.str "place"), .val (.str x), .val (.str m)] = ret (.bool true) := by
  have hd : decide (x = m) = false := decide_eq_false hn
  unfold f_stands evF s_stands
  simp -implicitDefEqProofs only [evSs, evS, evE, evAnd, evOr, evL, evA, evO, evC, evI, froz, thaw_nil, thaw, behind_nil, behind_int, behind_bool, behind_str, behind_none, behind_tup, behind_lst, isFeed, asB, asI, isNone_none, isNone_bool, isNone_int, isNone_str, isNone_tup, isNone_lst, mb_ret, mb_bad, mb_mb, ofO_ret, ofO_bad, List.getElem?_cons_zero, List.getElem?_cons_succ, List.cons_append, List.nil_append, List.replicate, List.length_cons, List.length_nil, List.set_cons_zero, List.set_cons_succ, bindT_nm, bindT_tp, setAll, setO, Option.map_some, Option.map_none, List.map_cons, List.map_nil, wipeR, ite_tt, ite_ft, if_true, if_false, Nat.reduceAdd, Nat.reduceSub, Bool.false_eq_true, cop_eq_str, cop_ne_str, ofS_inj, decide_true, at_13_is_name_1, n_is_name h, String.reduceEq, decide_false, Bool.not_true, Bool.not_false, hd]
/-- names and numbers of a row are by form -/
def Row.form : Row → Prop
  | .call m => nameOk m = true ∧ place m = false
  | .set m p => (nameOk m = true ∧ place m = false) ∧ nameOk p = true ∧ p ≠ m
  | .gone m _ => nameOk m = true ∧ place m = false
  | .told a _ => isAnswer a = true
  | .rais f => nameOk f = true
  | .lower f => nameOk f = true
  | .ask f _ => nameOk f = true
  | .go _ => True
  | .use t => nameOk t = true
  | .wait f => nameOk f = true
  | .fin => True
theorem n_is_row {r : Row} (h : r.form) : f_is_row [.val r.enc] = ret (.bool true) := by
  cases r with
  | call m =>
    unfold f_is_row evF s_is_row Row.enc
    simp -implicitDefEqProofs only [evSs, evS, evE, evAnd, evOr, evL, evA, evO, evC, evI, froz, thaw_nil, thaw, behind_nil, behind_int, behind_bool, behind_str, behind_none, behind_tup, behind_lst, isFeed, asB, asI, isNone_none, isNone_bool, isNone_int, isNone_str, isNone_tup, isNone_lst, mb_ret, mb_bad, mb_mb, ofO_ret, ofO_bad, List.getElem?_cons_zero, List.getElem?_cons_succ, List.cons_append, List.nil_append, List.replicate, List.length_cons, List.length_nil, List.set_cons_zero, List.set_cons_succ, bindT_nm, bindT_tp, setAll, setO, Option.map_some, Option.map_none, List.map_cons, List.map_nil, wipeR, ite_tt, ite_ft, if_true, if_false, Nat.reduceAdd, Nat.reduceSub, Bool.false_eq_true, tyD, bi_len_t, cop_eq_int, cop_ne_int, ix_t0, ix_t1, tab_14_WANTS, t_WANTS, looK, ofS_inj, String.reduceEq, decide_false, decide_true, Bool.not_true, Bool.not_false, Int.reduceBEq, nc0, nc1, nc2, nc3, bop_add_int, Int.reduceAdd, sl_t1, at_14_stands_3, zipD, compL, lenOk, Nat.reduceLeDiff, bi_all_l, boolsOf, List.all_cons, List.all_nil, id, Bool.and_true, Bool.true_and, st_mark h.1 h.2]
  | set m p =>
    unfold f_is_row evF s_is_row Row.enc
    simp -implicitDefEqProofs only [evSs, evS, evE, evAnd, evOr, evL, evA, evO, evC, evI, froz, thaw_nil, thaw, behind_nil, behind_int, behind_bool, behind_str, behind_none, behind_tup, behind_lst, isFeed, asB, asI, isNone_none, isNone_bool, isNone_int, isNone_str, isNone_tup, isNone_lst, mb_ret, mb_bad, mb_mb, ofO_ret, ofO_bad, List.getElem?_cons_zero, List.getElem?_cons_succ, List.cons_append, List.nil_append, List.replicate, List.length_cons, List.length_nil, List.set_cons_zero, List.set_cons_succ, bindT_nm, bindT_tp, setAll, setO, Option.map_some, Option.map_none, List.map_cons, List.map_nil, wipeR, ite_tt, ite_ft, if_true, if_false, Nat.reduceAdd, Nat.reduceSub, Bool.false_eq_true, tyD, bi_len_t, cop_eq_int, cop_ne_int, ix_t0, ix_t1, tab_14_WANTS, t_WANTS, looK, ofS_inj, String.reduceEq, decide_false, decide_true, Bool.not_true, Bool.not_false, Int.reduceBEq, nc0, nc1, nc2, nc3, bop_add_int, Int.reduceAdd, sl_t1, at_14_stands_3, zipD, compL, lenOk, Nat.reduceLeDiff, bi_all_l, boolsOf, List.all_cons, List.all_nil, id, Bool.and_true, Bool.true_and, st_mark h.1.1 h.1.2, st_place h.2.1 h.2.2]
  | gone m l =>
    unfold f_is_row evF s_is_row Row.enc
    simp -implicitDefEqProofs only [evSs, evS, evE, evAnd, evOr, evL, evA, evO, evC, evI, froz, thaw_nil, thaw, behind_nil, behind_int, behind_bool, behind_str, behind_none, behind_tup, behind_lst, isFeed, asB, asI, isNone_none, isNone_bool, isNone_int, isNone_str, isNone_tup, isNone_lst, mb_ret, mb_bad, mb_mb, ofO_ret, ofO_bad, List.getElem?_cons_zero, List.getElem?_cons_succ, List.cons_append, List.nil_append, List.replicate, List.length_cons, List.length_nil, List.set_cons_zero, List.set_cons_succ, bindT_nm, bindT_tp, setAll, setO, Option.map_some, Option.map_none, List.map_cons, List.map_nil, wipeR, ite_tt, ite_ft, if_true, if_false, Nat.reduceAdd, Nat.reduceSub, Bool.false_eq_true, tyD, bi_len_t, cop_eq_int, cop_ne_int, ix_t0, ix_t1, tab_14_WANTS, t_WANTS, looK, ofS_inj, String.reduceEq, decide_false, decide_true, Bool.not_true, Bool.not_false, Int.reduceBEq, nc0, nc1, nc2, nc3, bop_add_int, Int.reduceAdd, sl_t1, at_14_stands_3, zipD, compL, lenOk, Nat.reduceLeDiff, bi_all_l, boolsOf, List.all_cons, List.all_nil, id, Bool.and_true, Bool.true_and, st_mark h.1 h.2, st_line]
  | told a l =>
    unfold f_is_row evF s_is_row Row.enc
    simp -implicitDefEqProofs only [evSs, evS, evE, evAnd, evOr, evL, evA, evO, evC, evI, froz, thaw_nil, thaw, behind_nil, behind_int, behind_bool, behind_str, behind_none, behind_tup, behind_lst, isFeed, asB, asI, isNone_none, isNone_bool, isNone_int, isNone_str, isNone_tup, isNone_lst, mb_ret, mb_bad, mb_mb, ofO_ret, ofO_bad, List.getElem?_cons_zero, List.getElem?_cons_succ, List.cons_append, List.nil_append, List.replicate, List.length_cons, List.length_nil, List.set_cons_zero, List.set_cons_succ, bindT_nm, bindT_tp, setAll, setO, Option.map_some, Option.map_none, List.map_cons, List.map_nil, wipeR, ite_tt, ite_ft, if_true, if_false, Nat.reduceAdd, Nat.reduceSub, Bool.false_eq_true, tyD, bi_len_t, cop_eq_int, cop_ne_int, ix_t0, ix_t1, tab_14_WANTS, t_WANTS, looK, ofS_inj, String.reduceEq, decide_false, decide_true, Bool.not_true, Bool.not_false, Int.reduceBEq, nc0, nc1, nc2, nc3, bop_add_int, Int.reduceAdd, sl_t1, at_14_stands_3, zipD, compL, lenOk, Nat.reduceLeDiff, bi_all_l, boolsOf, List.all_cons, List.all_nil, id, Bool.and_true, Bool.true_and, st_answer h, st_line]
  | rais f =>
    unfold f_is_row evF s_is_row Row.enc
    simp -implicitDefEqProofs only [evSs, evS, evE, evAnd, evOr, evL, evA, evO, evC, evI, froz, thaw_nil, thaw, behind_nil, behind_int, behind_bool, behind_str, behind_none, behind_tup, behind_lst, isFeed, asB, asI, isNone_none, isNone_bool, isNone_int, isNone_str, isNone_tup, isNone_lst, mb_ret, mb_bad, mb_mb, ofO_ret, ofO_bad, List.getElem?_cons_zero, List.getElem?_cons_succ, List.cons_append, List.nil_append, List.replicate, List.length_cons, List.length_nil, List.set_cons_zero, List.set_cons_succ, bindT_nm, bindT_tp, setAll, setO, Option.map_some, Option.map_none, List.map_cons, List.map_nil, wipeR, ite_tt, ite_ft, if_true, if_false, Nat.reduceAdd, Nat.reduceSub, Bool.false_eq_true, tyD, bi_len_t, cop_eq_int, cop_ne_int, ix_t0, ix_t1, tab_14_WANTS, t_WANTS, looK, ofS_inj, String.reduceEq, decide_false, decide_true, Bool.not_true, Bool.not_false, Int.reduceBEq, nc0, nc1, nc2, nc3, bop_add_int, Int.reduceAdd, sl_t1, at_14_stands_3, zipD, compL, lenOk, Nat.reduceLeDiff, bi_all_l, boolsOf, List.all_cons, List.all_nil, id, Bool.and_true, Bool.true_and, st_name h]
  | lower f =>
    unfold f_is_row evF s_is_row Row.enc
    simp -implicitDefEqProofs only [evSs, evS, evE, evAnd, evOr, evL, evA, evO, evC, evI, froz, thaw_nil, thaw, behind_nil, behind_int, behind_bool, behind_str, behind_none, behind_tup, behind_lst, isFeed, asB, asI, isNone_none, isNone_bool, isNone_int, isNone_str, isNone_tup, isNone_lst, mb_ret, mb_bad, mb_mb, ofO_ret, ofO_bad, List.getElem?_cons_zero, List.getElem?_cons_succ, List.cons_append, List.nil_append, List.replicate, List.length_cons, List.length_nil, List.set_cons_zero, List.set_cons_succ, bindT_nm, bindT_tp, setAll, setO, Option.map_some, Option.map_none, List.map_cons, List.map_nil, wipeR, ite_tt, ite_ft, if_true, if_false, Nat.reduceAdd, Nat.reduceSub, Bool.false_eq_true, tyD, bi_len_t, cop_eq_int, cop_ne_int, ix_t0, ix_t1, tab_14_WANTS, t_WANTS, looK, ofS_inj, String.reduceEq, decide_false, decide_true, Bool.not_true, Bool.not_false, Int.reduceBEq, nc0, nc1, nc2, nc3, bop_add_int, Int.reduceAdd, sl_t1, at_14_stands_3, zipD, compL, lenOk, Nat.reduceLeDiff, bi_all_l, boolsOf, List.all_cons, List.all_nil, id, Bool.and_true, Bool.true_and, st_name h]
  | ask f l =>
    unfold f_is_row evF s_is_row Row.enc
    simp -implicitDefEqProofs only [evSs, evS, evE, evAnd, evOr, evL, evA, evO, evC, evI, froz, thaw_nil, thaw, behind_nil, behind_int, behind_bool, behind_str, behind_none, behind_tup, behind_lst, isFeed, asB, asI, isNone_none, isNone_bool, isNone_int, isNone_str, isNone_tup, isNone_lst, mb_ret, mb_bad, mb_mb, ofO_ret, ofO_bad, List.getElem?_cons_zero, List.getElem?_cons_succ, List.cons_append, List.nil_append, List.replicate, List.length_cons, List.length_nil, List.set_cons_zero, List.set_cons_succ, bindT_nm, bindT_tp, setAll, setO, Option.map_some, Option.map_none, List.map_cons, List.map_nil, wipeR, ite_tt, ite_ft, if_true, if_false, Nat.reduceAdd, Nat.reduceSub, Bool.false_eq_true, tyD, bi_len_t, cop_eq_int, cop_ne_int, ix_t0, ix_t1, tab_14_WANTS, t_WANTS, looK, ofS_inj, String.reduceEq, decide_false, decide_true, Bool.not_true, Bool.not_false, Int.reduceBEq, nc0, nc1, nc2, nc3, bop_add_int, Int.reduceAdd, sl_t1, at_14_stands_3, zipD, compL, lenOk, Nat.reduceLeDiff, bi_all_l, boolsOf, List.all_cons, List.all_nil, id, Bool.and_true, Bool.true_and, st_name h, st_line]
  | go l =>
    unfold f_is_row evF s_is_row Row.enc
    simp -implicitDefEqProofs only [evSs, evS, evE, evAnd, evOr, evL, evA, evO, evC, evI, froz, thaw_nil, thaw, behind_nil, behind_int, behind_bool, behind_str, behind_none, behind_tup, behind_lst, isFeed, asB, asI, isNone_none, isNone_bool, isNone_int, isNone_str, isNone_tup, isNone_lst, mb_ret, mb_bad, mb_mb, ofO_ret, ofO_bad, List.getElem?_cons_zero, List.getElem?_cons_succ, List.cons_append, List.nil_append, List.replicate, List.length_cons, List.length_nil, List.set_cons_zero, List.set_cons_succ, bindT_nm, bindT_tp, setAll, setO, Option.map_some, Option.map_none, List.map_cons, List.map_nil, wipeR, ite_tt, ite_ft, if_true, if_false, Nat.reduceAdd, Nat.reduceSub, Bool.false_eq_true, tyD, bi_len_t, cop_eq_int, cop_ne_int, ix_t0, ix_t1, tab_14_WANTS, t_WANTS, looK, ofS_inj, String.reduceEq, decide_false, decide_true, Bool.not_true, Bool.not_false, Int.reduceBEq, nc0, nc1, nc2, nc3, bop_add_int, Int.reduceAdd, sl_t1, at_14_stands_3, zipD, compL, lenOk, Nat.reduceLeDiff, bi_all_l, boolsOf, List.all_cons, List.all_nil, id, Bool.and_true, Bool.true_and, st_line]
  | use t =>
    unfold f_is_row evF s_is_row Row.enc
    simp -implicitDefEqProofs only [evSs, evS, evE, evAnd, evOr, evL, evA, evO, evC, evI, froz, thaw_nil, thaw, behind_nil, behind_int, behind_bool, behind_str, behind_none, behind_tup, behind_lst, isFeed, asB, asI, isNone_none, isNone_bool, isNone_int, isNone_str, isNone_tup, isNone_lst, mb_ret, mb_bad, mb_mb, ofO_ret, ofO_bad, List.getElem?_cons_zero, List.getElem?_cons_succ, List.cons_append, List.nil_append, List.replicate, List.length_cons, List.length_nil, List.set_cons_zero, List.set_cons_succ, bindT_nm, bindT_tp, setAll, setO, Option.map_some, Option.map_none, List.map_cons, List.map_nil, wipeR, ite_tt, ite_ft, if_true, if_false, Nat.reduceAdd, Nat.reduceSub, Bool.false_eq_true, tyD, bi_len_t, cop_eq_int, cop_ne_int, ix_t0, ix_t1, tab_14_WANTS, t_WANTS, looK, ofS_inj, String.reduceEq, decide_false, decide_true, Bool.not_true, Bool.not_false, Int.reduceBEq, nc0, nc1, nc2, nc3, bop_add_int, Int.reduceAdd, sl_t1, at_14_stands_3, zipD, compL, lenOk, Nat.reduceLeDiff, bi_all_l, boolsOf, List.all_cons, List.all_nil, id, Bool.and_true, Bool.true_and, st_name h]
  | wait f =>
    unfold f_is_row evF s_is_row Row.enc
    simp -implicitDefEqProofs only [evSs, evS, evE, evAnd, evOr, evL, evA, evO, evC, evI, froz, thaw_nil, thaw, behind_nil, behind_int, behind_bool, behind_str, behind_none, behind_tup, behind_lst, isFeed, asB, asI, isNone_none, isNone_bool, isNone_int, isNone_str, isNone_tup, isNone_lst, mb_ret, mb_bad, mb_mb, ofO_ret, ofO_bad, List.getElem?_cons_zero, List.getElem?_cons_succ, List.cons_append, List.nil_append, List.replicate, List.length_cons, List.length_nil, List.set_cons_zero, List.set_cons_succ, bindT_nm, bindT_tp, setAll, setO, Option.map_some, Option.map_none, List.map_cons, List.map_nil, wipeR, ite_tt, ite_ft, if_true, if_false, Nat.reduceAdd, Nat.reduceSub, Bool.false_eq_true, tyD, bi_len_t, cop_eq_int, cop_ne_int, ix_t0, ix_t1, tab_14_WANTS, t_WANTS, looK, ofS_inj, String.reduceEq, decide_false, decide_true, Bool.not_true, Bool.not_false, Int.reduceBEq, nc0, nc1, nc2, nc3, bop_add_int, Int.reduceAdd, sl_t1, at_14_stands_3, zipD, compL, lenOk, Nat.reduceLeDiff, bi_all_l, boolsOf, List.all_cons, List.all_nil, id, Bool.and_true, Bool.true_and, st_name h]
  | fin =>
    unfold f_is_row evF s_is_row Row.enc
    simp -implicitDefEqProofs only [evSs, evS, evE, evAnd, evOr, evL, evA, evO, evC, evI, froz, thaw_nil, thaw, behind_nil, behind_int, behind_bool, behind_str, behind_none, behind_tup, behind_lst, isFeed, asB, asI, isNone_none, isNone_bool, isNone_int, isNone_str, isNone_tup, isNone_lst, mb_ret, mb_bad, mb_mb, ofO_ret, ofO_bad, List.getElem?_cons_zero, List.getElem?_cons_succ, List.cons_append, List.nil_append, List.replicate, List.length_cons, List.length_nil, List.set_cons_zero, List.set_cons_succ, bindT_nm, bindT_tp, setAll, setO, Option.map_some, Option.map_none, List.map_cons, List.map_nil, wipeR, ite_tt, ite_ft, if_true, if_false, Nat.reduceAdd, Nat.reduceSub, Bool.false_eq_true, tyD, bi_len_t, cop_eq_int, cop_ne_int, ix_t0, ix_t1, tab_14_WANTS, t_WANTS, looK, ofS_inj, String.reduceEq, decide_false, decide_true, Bool.not_true, Bool.not_false, Int.reduceBEq, nc0, nc1, nc2, nc3, bop_add_int, Int.reduceAdd, sl_t1, at_14_stands_3, zipD, compL, lenOk, Nat.reduceLeDiff, bi_all_l, boolsOf, List.all_cons, List.all_nil, id, Bool.and_true, Bool.true_and]
end Qv.K5

namespace Qv.K5
open PySem Tx
/-! ### lines -/
def Row.line : Row → Option Nat
  | .gone _ l => some l
  | .told _ l => some l
  | .ask _ l => some l
  | .go l => some l
  | _ => none
def optD : Option Nat → D
  | some l => .int l
  | none => .none
theorem ixm1 (a : D) : ixD (.tuple [a]) (.int (-1)) = some a := rfl
theorem ixm2 (a b : D) : ixD (.tuple [a, b]) (.int (-1)) = some b := rfl
theorem ixm3 (a b c : D) : ixD (.tuple [a, b, c]) (.int (-1)) = some c := rfl
theorem n_line_in (r : Row) : f_line_in [.val r.enc] = ret (optD r.line) := by
  cases r <;>
  · unfold f_line_in evF s_line_in Row.enc
    simp -implicitDefEqProofs only [evSs, evS, evE, evAnd, evOr, evL, evA, evO, evC, evI, froz, thaw_nil, thaw, behind_nil, behind_int, behind_bool, behind_str, behind_none, behind_tup, behind_lst, isFeed, asB, asI, isNone_none, isNone_bool, isNone_int, isNone_str, isNone_tup, isNone_lst, mb_ret, mb_bad, mb_mb, ofO_ret, ofO_bad, List.getElem?_cons_zero, List.getElem?_cons_succ, List.cons_append, List.nil_append, List.replicate, List.length_cons, List.length_nil, List.set_cons_zero, List.set_cons_succ, bindT_nm, bindT_tp, setAll, setO, Option.map_some, Option.map_none, List.map_cons, List.map_nil, wipeR, ite_tt, ite_ft, if_true, if_false, Nat.reduceAdd, Nat.reduceSub, Bool.false_eq_true, bi_len_t, cop_gt_int, cop_eq_str, ix_t0, ix_t1, tab_15_WANTS, t_WANTS, looK, ofS_inj, String.reduceEq, decide_false, decide_true, Bool.not_true, Bool.not_false, nc0, nc1, nc2, nc3, Int.reduceLT, Int.reduceNeg, ixm1, ixm2, ixm3, Row.line, optD]
/-! ### programs -/
def pr (q : Str × Str) : D := .tuple [.str q.1, .str q.2]
structure Bell where
  name : Str
  again : Bool
  keeps : Bool
  rows : List Row
structure Prog where
  st : List (Str × Str)
  ms : List (Str × Str)
  fl : List Str
  to : List Str
  rows : List Row
  bells : List Bell
def encRows (l : List Row) : D := .tuple (l.map Row.enc)
def Bell.enc (b : Bell) : D := .tuple [.str b.name, .bool b.again, .bool b.keeps, encRows b.rows]
def Prog.enc (p : Prog) : D := .tuple [.tuple (p.st.map pr), .tuple (p.ms.map pr), .tuple (p.fl.map .str), .tuple (p.to.map .str), encRows p.rows, .tuple (p.bells.map Bell.enc)]
def look (l : List (Str × Str)) (m : Str) : Option Str := ((l.filter fun q => decide (q.1 = m)).map (·.2)).head?
def strO : Option Str → D
  | some s => .str s
  | none => .none
theorem pos1 (n : Nat) : decide ((0 : Int) < ((n + 1 : Nat) : Int)) = true := decide_eq_true (by omega)
theorem n_stretch_in (l : List (Str × Str)) (m : Str) (hl : l.length ≤ 1000) : f_stretch_in [.val (.tuple (l.map pr)), .val (.str m)] = ret (strO (look l m)) := by
  unfold f_stretch_in evF s_stretch_in
  simp -implicitDefEqProofs only [evSs, evS, evE, evAnd, evOr, evL, evA, evO, evC, evI, froz, thaw_nil, thaw, behind_nil, behind_int, behind_bool, behind_str, behind_none, behind_tup, behind_lst, isFeed, asB, asI, isNone_none, isNone_bool, isNone_int, isNone_str, isNone_tup, isNone_lst, mb_ret, mb_bad, mb_mb, ofO_ret, ofO_bad, List.getElem?_cons_zero, List.getElem?_cons_succ, List.cons_append, List.nil_append, List.replicate, List.length_cons, List.length_nil, List.set_cons_zero, List.set_cons_succ, bindT_nm, bindT_tp, setAll, setO, Option.map_some, Option.map_none, List.map_cons, List.map_nil, wipeR, ite_tt, ite_ft, if_true, if_false, Nat.reduceAdd, Nat.reduceSub, Bool.false_eq_true, itemsOf]
  rw [compL_ofF (p := fun q : Str × Str => decide (q.1 = m)) (g := fun q => .str q.2) fun q _ => by
    unfold pr
    simp -implicitDefEqProofs only [evSs, evS, evE, evAnd, evOr, evL, evA, evO, evC, evI, froz, thaw_nil, thaw, behind_nil, behind_int, behind_bool, behind_str, behind_none, behind_tup, behind_lst, isFeed, asB, asI, isNone_none, isNone_bool, isNone_int, isNone_str, isNone_tup, isNone_lst, mb_ret, mb_bad, mb_mb, ofO_ret, ofO_bad, List.getElem?_cons_zero, List.getElem?_cons_succ, List.cons_append, List.nil_append, List.replicate, List.length_cons, List.length_nil, List.set_cons_zero, List.set_cons_succ, bindT_nm, bindT_tp, setAll, setO, Option.map_some, Option.map_none, List.map_cons, List.map_nil, wipeR, ite_tt, ite_ft, if_true, if_false, Nat.reduceAdd, Nat.reduceSub, Bool.false_eq_true, cop_eq_str]
    cases decide (q.1 = m) <;> rfl]
  unfold look
  have h1 := List.length_filter_le (fun q : Str × Str => decide (q.1 = m)) l
  generalize l.filter (fun q => decide (q.1 = m)) = f at h1
  have h2 : lenOk ((f.map fun q => PyData.str q.2)).length = true := by
    rw [List.length_map]
    exact lenOk_of (by omega)
  simp -implicitDefEqProofs only [evSs, evS, evE, evAnd, evOr, evL, evA, evO, evC, evI, froz, thaw_nil, thaw, behind_nil, behind_int, behind_bool, behind_str, behind_none, behind_tup, behind_lst, isFeed, asB, asI, isNone_none, isNone_bool, isNone_int, isNone_str, isNone_tup, isNone_lst, mb_ret, mb_bad, mb_mb, ofO_ret, ofO_bad, List.getElem?_cons_zero, List.getElem?_cons_succ, List.cons_append, List.nil_append, List.replicate, List.length_cons, List.length_nil, List.set_cons_zero, List.set_cons_succ, bindT_nm, bindT_tp, setAll, setO, Option.map_some, Option.map_none, List.map_cons, List.map_nil, wipeR, ite_tt, ite_ft, if_true, if_false, Nat.reduceAdd, Nat.reduceSub, Bool.false_eq_true, h2]
  cases f with
  | nil => rfl
  | cons x r =>
    simp -implicitDefEqProofs only [evSs, evS, evE, evAnd, evOr, evL, evA, evO, evC, evI, froz, thaw_nil, thaw, behind_nil, behind_int, behind_bool, behind_str, behind_none, behind_tup, behind_lst, isFeed, asB, asI, isNone_none, isNone_bool, isNone_int, isNone_str, isNone_tup, isNone_lst, mb_ret, mb_bad, mb_mb, ofO_ret, ofO_bad, List.getElem?_cons_zero, List.getElem?_cons_succ, List.cons_append, List.nil_append, List.replicate, List.length_cons, List.length_nil, List.set_cons_zero, List.set_cons_succ, bindT_nm, bindT_tp, setAll, setO, Option.map_some, Option.map_none, List.map_cons, List.map_nil, wipeR, ite_tt, ite_ft, if_true, if_false, Nat.reduceAdd, Nat.reduceSub, Bool.false_eq_true, bi_len_l, cop_gt_int, pos1, ix_l0]
    rfl
theorem in_strs (x : Str) (l : List Str) : inD (.str x) (.tuple (l.map .str)) = some (decide (x ∈ l)) := by
  have h1 : (l.map PyData.str).all flat = true := by
    rw [List.all_map]
    exact List.all_eq_true.mpr fun _ _ => rfl
  show (if (flat (.str x) && (l.map PyData.str).all flat) = true then some ((l.map PyData.str).any fun y => eqF y (.str x)) else none) = _
  rw [h1]
  show some _ = some _
  congr 1
  rw [List.any_map]
  induction l with
  | nil => rfl
  | cons y r ih =>
    have ih := ih (by rw [List.all_map]; exact List.all_eq_true.mpr fun _ _ => rfl)
    rw [List.any_cons, ih]
    show ((y == x) || _) = _
    rw [beq_str]
    by_cases h : x = y
    · rw [decide_eq_true h, decide_eq_true (List.mem_cons.mpr (.inl h))]
      rfl
    · rw [decide_eq_false h]
      show decide (x ∈ r) = _
      by_cases h2 : x ∈ r
      · rw [decide_eq_true h2, decide_eq_true (List.mem_cons_of_mem _ h2)]
      · rw [decide_eq_false h2, decide_eq_false fun z => (List.mem_cons.mp z).elim h h2]
def Row.fits (p : Prog) : Row → Prop
  | .call m => ∃ s, look p.ms m = some s
  | .set m q => ∃ s, look p.ms m = some s ∧ (place q = true ∨ look p.ms q = some s)
  | .gone m _ => ∃ s, look p.ms m = some s
  | .told _ _ => True
  | .rais f => f ∈ p.fl
  | .lower f => f ∈ p.fl
  | .ask f _ => f ∈ p.fl
  | .go _ => True
  | .use t => t ∈ p.to
  | .wait f => f ∈ p.fl
  | .fin => True
theorem sl4 (a b c d e f : D) : slD (.tuple [a, b, c, d, e, f]) none (some 4) = some (.tuple [a, b, c, d]) := rfl
theorem inlit3 (x a b c : Str) : inD (.str x) (.tuple [.str a, .str b, .str c]) = some (decide (x = a) || (decide (x = b) || decide (x = c))) := by
  show some ([PyData.str a, .str b, .str c].any fun y => eqF y (.str x)) = _
  simp only [List.any_cons, List.any_nil, eqF_str, beq_str, Bool.or_false]
theorem inlit4 (x a b c d : Str) : inD (.str x) (.tuple [.str a, .str b, .str c, .str d]) = some (decide (x = a) || (decide (x = b) || (decide (x = c) || decide (x = d)))) := by
  show some ([PyData.str a, .str b, .str c, .str d].any fun y => eqF y (.str x)) = _
  simp only [List.any_cons, List.any_nil, eqF_str, beq_str, Bool.or_false]
theorem n_fits_names {p : Prog} {r : Row} (hm : p.ms.length ≤ 1000) (h : r.fits p) : f_fits_names [.val p.enc, .val r.enc] = ret (.bool true) := by
  cases r with
  | call m =>
    obtain ⟨s, h⟩ := h
    unfold f_fits_names evF s_fits_names Row.enc Prog.enc
    simp -implicitDefEqProofs only [evSs, evS, evE, evAnd, evOr, evL, evA, evO, evC, evI, froz, thaw_nil, thaw, behind_nil, behind_int, behind_bool, behind_str, behind_none, behind_tup, behind_lst, isFeed, asB, asI, isNone_none, isNone_bool, isNone_int, isNone_str, isNone_tup, isNone_lst, mb_ret, mb_bad, mb_mb, ofO_ret, ofO_bad, List.getElem?_cons_zero, List.getElem?_cons_succ, List.cons_append, List.nil_append, List.replicate, List.length_cons, List.length_nil, List.set_cons_zero, List.set_cons_succ, bindT_nm, bindT_tp, setAll, setO, Option.map_some, Option.map_none, List.map_cons, List.map_nil, wipeR, ite_tt, ite_ft, if_true, if_false, Nat.reduceAdd, Nat.reduceSub, Bool.false_eq_true, sl4, ix_t0, ix_t1, ix_t2, cop_in, cop_ne_str, cop_eq_str, inlit3, inlit4, ofS_inj, String.reduceEq, decide_false, decide_true, Bool.or_true, Bool.true_or, Bool.or_false, Bool.false_or, Bool.not_true, Bool.not_false, at_10_stretch_in_2, con_10_PLACES, in_places, in_strs, n_stretch_in _ _ hm, h, strO]
  | set m q =>
    obtain ⟨s, h, h2⟩ := h
    cases hp : place q with
    | true =>
      have hp2 : (decide (q = "start") || (decide (q = "end") || decide (q = "stop"))) = true := hp
      unfold f_fits_names evF s_fits_names Row.enc Prog.enc
      simp -implicitDefEqProofs only [evSs, evS, evE, evAnd, evOr, evL, evA, evO, evC, evI, froz, thaw_nil, thaw, behind_nil, behind_int, behind_bool, behind_str, behind_none, behind_tup, behind_lst, isFeed, asB, asI, isNone_none, isNone_bool, isNone_int, isNone_str, isNone_tup, isNone_lst, mb_ret, mb_bad, mb_mb, ofO_ret, ofO_bad, List.getElem?_cons_zero, List.getElem?_cons_succ, List.cons_append, List.nil_append, List.replicate, List.length_cons, List.length_nil, List.set_cons_zero, List.set_cons_succ, bindT_nm, bindT_tp, setAll, setO, Option.map_some, Option.map_none, List.map_cons, List.map_nil, wipeR, ite_tt, ite_ft, if_true, if_false, Nat.reduceAdd, Nat.reduceSub, Bool.false_eq_true, sl4, ix_t0, ix_t1, ix_t2, cop_in, cop_ne_str, cop_eq_str, inlit3, inlit4, ofS_inj, String.reduceEq, decide_false, decide_true, Bool.or_true, Bool.true_or, Bool.or_false, Bool.false_or, Bool.not_true, Bool.not_false, at_10_stretch_in_2, con_10_PLACES, in_places, in_strs, n_stretch_in _ _ hm, h, strO, hp2]
    | false =>
      have h3 : look p.ms q = some s := h2.resolve_left (by rw [hp]; exact Bool.false_ne_true)
      have hp2 : (decide (q = "start") || (decide (q = "end") || decide (q = "stop"))) = false := hp
      unfold f_fits_names evF s_fits_names Row.enc Prog.enc
      simp -implicitDefEqProofs only [evSs, evS, evE, evAnd, evOr, evL, evA, evO, evC, evI, froz, thaw_nil, thaw, behind_nil, behind_int, behind_bool, behind_str, behind_none, behind_tup, behind_lst, isFeed, asB, asI, isNone_none, isNone_bool, isNone_int, isNone_str, isNone_tup, isNone_lst, mb_ret, mb_bad, mb_mb, ofO_ret, ofO_bad, List.getElem?_cons_zero, List.getElem?_cons_succ, List.cons_append, List.nil_append, List.replicate, List.length_cons, List.length_nil, List.set_cons_zero, List.set_cons_succ, bindT_nm, bindT_tp, setAll, setO, Option.map_some, Option.map_none, List.map_cons, List.map_nil, wipeR, ite_tt, ite_ft, if_true, if_false, Nat.reduceAdd, Nat.reduceSub, Bool.false_eq_true, sl4, ix_t0, ix_t1, ix_t2, cop_in, cop_ne_str, cop_eq_str, inlit3, inlit4, ofS_inj, String.reduceEq, decide_false, decide_true, Bool.or_true, Bool.true_or, Bool.or_false, Bool.false_or, Bool.not_true, Bool.not_false, at_10_stretch_in_2, con_10_PLACES, in_places, in_strs, n_stretch_in _ _ hm, h, h3, strO, hp2]
  | gone m l =>
    obtain ⟨s, h⟩ := h
    unfold f_fits_names evF s_fits_names Row.enc Prog.enc
    simp -implicitDefEqProofs only [evSs, evS, evE, evAnd, evOr, evL, evA, evO, evC, evI, froz, thaw_nil, thaw, behind_nil, behind_int, behind_bool, behind_str, behind_none, behind_tup, behind_lst, isFeed, asB, asI, isNone_none, isNone_bool, isNone_int, isNone_str, isNone_tup, isNone_lst, mb_ret, mb_bad, mb_mb, ofO_ret, ofO_bad, List.getElem?_cons_zero, List.getElem?_cons_succ, List.cons_append, List.nil_append, List.replicate, List.length_cons, List.length_nil, List.set_cons_zero, List.set_cons_succ, bindT_nm, bindT_tp, setAll, setO, Option.map_some, Option.map_none, List.map_cons, List.map_nil, wipeR, ite_tt, ite_ft, if_true, if_false, Nat.reduceAdd, Nat.reduceSub, Bool.false_eq_true, sl4, ix_t0, ix_t1, ix_t2, cop_in, cop_ne_str, cop_eq_str, inlit3, inlit4, ofS_inj, String.reduceEq, decide_false, decide_true, Bool.or_true, Bool.true_or, Bool.or_false, Bool.false_or, Bool.not_true, Bool.not_false, at_10_stretch_in_2, con_10_PLACES, in_places, in_strs, n_stretch_in _ _ hm, h, strO]
  | told a l =>
    unfold f_fits_names evF s_fits_names Row.enc Prog.enc
    simp -implicitDefEqProofs only [evSs, evS, evE, evAnd, evOr, evL, evA, evO, evC, evI, froz, thaw_nil, thaw, behind_nil, behind_int, behind_bool, behind_str, behind_none, behind_tup, behind_lst, isFeed, asB, asI, isNone_none, isNone_bool, isNone_int, isNone_str, isNone_tup, isNone_lst, mb_ret, mb_bad, mb_mb, ofO_ret, ofO_bad, List.getElem?_cons_zero, List.getElem?_cons_succ, List.cons_append, List.nil_append, List.replicate, List.length_cons, List.length_nil, List.set_cons_zero, List.set_cons_succ, bindT_nm, bindT_tp, setAll, setO, Option.map_some, Option.map_none, List.map_cons, List.map_nil, wipeR, ite_tt, ite_ft, if_true, if_false, Nat.reduceAdd, Nat.reduceSub, Bool.false_eq_true, sl4, ix_t0, ix_t1, ix_t2, cop_in, cop_ne_str, cop_eq_str, inlit3, inlit4, ofS_inj, String.reduceEq, decide_false, decide_true, Bool.or_true, Bool.true_or, Bool.or_false, Bool.false_or, Bool.not_true, Bool.not_false, at_10_stretch_in_2, con_10_PLACES, in_places, in_strs]
  | rais f =>
    have h' : decide (f ∈ p.fl) = true := decide_eq_true h
    unfold f_fits_names evF s_fits_names Row.enc Prog.enc
    simp -implicitDefEqProofs only [evSs, evS, evE, evAnd, evOr, evL, evA, evO, evC, evI, froz, thaw_nil, thaw, behind_nil, behind_int, behind_bool, behind_str, behind_none, behind_tup, behind_lst, isFeed, asB, asI, isNone_none, isNone_bool, isNone_int, isNone_str, isNone_tup, isNone_lst, mb_ret, mb_bad, mb_mb, ofO_ret, ofO_bad, List.getElem?_cons_zero, List.getElem?_cons_succ, List.cons_append, List.nil_append, List.replicate, List.length_cons, List.length_nil, List.set_cons_zero, List.set_cons_succ, bindT_nm, bindT_tp, setAll, setO, Option.map_some, Option.map_none, List.map_cons, List.map_nil, wipeR, ite_tt, ite_ft, if_true, if_false, Nat.reduceAdd, Nat.reduceSub, Bool.false_eq_true, sl4, ix_t0, ix_t1, ix_t2, cop_in, cop_ne_str, cop_eq_str, inlit3, inlit4, ofS_inj, String.reduceEq, decide_false, decide_true, Bool.or_true, Bool.true_or, Bool.or_false, Bool.false_or, Bool.not_true, Bool.not_false, at_10_stretch_in_2, con_10_PLACES, in_places, in_strs, h']
  | lower f =>
    have h' : decide (f ∈ p.fl) = true := decide_eq_true h
    unfold f_fits_names evF s_fits_names Row.enc Prog.enc
    simp -implicitDefEqProofs only [evSs, evS, evE, evAnd, evOr, evL, evA, evO, evC, evI, froz, thaw_nil, thaw, behind_nil, behind_int, behind_bool, behind_str, behind_none, behind_tup, behind_lst, isFeed, asB, asI, isNone_none, isNone_bool, isNone_int, isNone_str, isNone_tup, isNone_lst, mb_ret, mb_bad, mb_mb, ofO_ret, ofO_bad, List.getElem?_cons_zero, List.getElem?_cons_succ, List.cons_append, List.nil_append, List.replicate, List.length_cons, List.length_nil, List.set_cons_zero, List.set_cons_succ, bindT_nm, bindT_tp, setAll, setO, Option.map_some, Option.map_none, List.map_cons, List.map_nil, wipeR, ite_tt, ite_ft, if_true, if_false, Nat.reduceAdd, Nat.reduceSub, Bool.false_eq_true, sl4, ix_t0, ix_t1, ix_t2, cop_in, cop_ne_str, cop_eq_str, inlit3, inlit4, ofS_inj, String.reduceEq, decide_false, decide_true, Bool.or_true, Bool.true_or, Bool.or_false, Bool.false_or, Bool.not_true, Bool.not_false, at_10_stretch_in_2, con_10_PLACES, in_places, in_strs, h']
  | ask f l =>
    have h' : decide (f ∈ p.fl) = true := decide_eq_true h
    unfold f_fits_names evF s_fits_names Row.enc Prog.enc
    simp -implicitDefEqProofs only [evSs, evS, evE, evAnd, evOr, evL, evA, evO, evC, evI, froz, thaw_nil, thaw, behind_nil, behind_int, behind_bool, behind_str, behind_none, behind_tup, behind_lst, isFeed, asB, asI, isNone_none, isNone_bool, isNone_int, isNone_str, isNone_tup, isNone_lst, mb_ret, mb_bad, mb_mb, ofO_ret, ofO_bad, List.getElem?_cons_zero, List.getElem?_cons_succ, List.cons_append, List.nil_append, List.replicate, List.length_cons, List.length_nil, List.set_cons_zero, List.set_cons_succ, bindT_nm, bindT_tp, setAll, setO, Option.map_some, Option.map_none, List.map_cons, List.map_nil, wipeR, ite_tt, ite_ft, if_true, if_false, Nat.reduceAdd, Nat.reduceSub, Bool.false_eq_true, sl4, ix_t0, ix_t1, ix_t2, cop_in, cop_ne_str, cop_eq_str, inlit3, inlit4, ofS_inj, String.reduceEq, decide_false, decide_true, Bool.or_true, Bool.true_or, Bool.or_false, Bool.false_or, Bool.not_true, Bool.not_false, at_10_stretch_in_2, con_10_PLACES, in_places, in_strs, h']
  | go l =>
    unfold f_fits_names evF s_fits_names Row.enc Prog.enc
    simp -implicitDefEqProofs only [evSs, evS, evE, evAnd, evOr, evL, evA, evO, evC, evI, froz, thaw_nil, thaw, behind_nil, behind_int, behind_bool, behind_str, behind_none, behind_tup, behind_lst, isFeed, asB, asI, isNone_none, isNone_bool, isNone_int, isNone_str, isNone_tup, isNone_lst, mb_ret, mb_bad, mb_mb, ofO_ret, ofO_bad, List.getElem?_cons_zero, List.getElem?_cons_succ, List.cons_append, List.nil_append, List.replicate, List.length_cons, List.length_nil, List.set_cons_zero, List.set_cons_succ, bindT_nm, bindT_tp, setAll, setO, Option.map_some, Option.map_none, List.map_cons, List.map_nil, wipeR, ite_tt, ite_ft, if_true, if_false, Nat.reduceAdd, Nat.reduceSub, Bool.false_eq_true, sl4, ix_t0, ix_t1, ix_t2, cop_in, cop_ne_str, cop_eq_str, inlit3, inlit4, ofS_inj, String.reduceEq, decide_false, decide_true, Bool.or_true, Bool.true_or, Bool.or_false, Bool.false_or, Bool.not_true, Bool.not_false, at_10_stretch_in_2, con_10_PLACES, in_places, in_strs]
  | use t =>
    have h' : decide (t ∈ p.to) = true := decide_eq_true h
    unfold f_fits_names evF s_fits_names Row.enc Prog.enc
    simp -implicitDefEqProofs only [evSs, evS, evE, evAnd, evOr, evL, evA, evO, evC, evI, froz, thaw_nil, thaw, behind_nil, behind_int, behind_bool, behind_str, behind_none, behind_tup, behind_lst, isFeed, asB, asI, isNone_none, isNone_bool, isNone_int, isNone_str, isNone_tup, isNone_lst, mb_ret, mb_bad, mb_mb, ofO_ret, ofO_bad, List.getElem?_cons_zero, List.getElem?_cons_succ, List.cons_append, List.nil_append, List.replicate, List.length_cons, List.length_nil, List.set_cons_zero, List.set_cons_succ, bindT_nm, bindT_tp, setAll, setO, Option.map_some, Option.map_none, List.map_cons, List.map_nil, wipeR, ite_tt, ite_ft, if_true, if_false, Nat.reduceAdd, Nat.reduceSub, Bool.false_eq_true, sl4, ix_t0, ix_t1, ix_t2, cop_in, cop_ne_str, cop_eq_str, inlit3, inlit4, ofS_inj, String.reduceEq, decide_false, decide_true, Bool.or_true, Bool.true_or, Bool.or_false, Bool.false_or, Bool.not_true, Bool.not_false, at_10_stretch_in_2, con_10_PLACES, in_places, in_strs, h']
  | wait f =>
    have h' : decide (f ∈ p.fl) = true := decide_eq_true h
    unfold f_fits_names evF s_fits_names Row.enc Prog.enc
    simp -implicitDefEqProofs only [evSs, evS, evE, evAnd, evOr, evL, evA, evO, evC, evI, froz, thaw_nil, thaw, behind_nil, behind_int, behind_bool, behind_str, behind_none, behind_tup, behind_lst, isFeed, asB, asI, isNone_none, isNone_bool, isNone_int, isNone_str, isNone_tup, isNone_lst, mb_ret, mb_bad, mb_mb, ofO_ret, ofO_bad, List.getElem?_cons_zero, List.getElem?_cons_succ, List.cons_append, List.nil_append, List.replicate, List.length_cons, List.length_nil, List.set_cons_zero, List.set_cons_succ, bindT_nm, bindT_tp, setAll, setO, Option.map_some, Option.map_none, List.map_cons, List.map_nil, wipeR, ite_tt, ite_ft, if_true, if_false, Nat.reduceAdd, Nat.reduceSub, Bool.false_eq_true, sl4, ix_t0, ix_t1, ix_t2, cop_in, cop_ne_str, cop_eq_str, inlit3, inlit4, ofS_inj, String.reduceEq, decide_false, decide_true, Bool.or_true, Bool.true_or, Bool.or_false, Bool.false_or, Bool.not_true, Bool.not_false, at_10_stretch_in_2, con_10_PLACES, in_places, in_strs, h']
  | fin =>
    unfold f_fits_names evF s_fits_names Row.enc Prog.enc
    simp -implicitDefEqProofs only [evSs, evS, evE, evAnd, evOr, evL, evA, evO, evC, evI, froz, thaw_nil, thaw, behind_nil, behind_int, behind_bool, behind_str, behind_none, behind_tup, behind_lst, isFeed, asB, asI, isNone_none, isNone_bool, isNone_int, isNone_str, isNone_tup, isNone_lst, mb_ret, mb_bad, mb_mb, ofO_ret, ofO_bad, List.getElem?_cons_zero, List.getElem?_cons_succ, List.cons_append, List.nil_append, List.replicate, List.length_cons, List.length_nil, List.set_cons_zero, List.set_cons_succ, bindT_nm, bindT_tp, setAll, setO, Option.map_some, Option.map_none, List.map_cons, List.map_nil, wipeR, ite_tt, ite_ft, if_true, if_false, Nat.reduceAdd, Nat.reduceSub, Bool.false_eq_true, sl4, ix_t0, ix_t1, ix_t2, cop_in, cop_ne_str, cop_eq_str, inlit3, inlit4, ofS_inj, String.reduceEq, decide_false, decide_true, Bool.or_true, Bool.true_or, Bool.or_false, Bool.false_or, Bool.not_true, Bool.not_false, at_10_stretch_in_2, con_10_PLACES, in_places, in_strs]
theorem inlit2 (x a b : Str) : inD (.str x) (.tuple [.str a, .str b]) = some (decide (x = a) || decide (x = b)) := by
  show some ([PyData.str a, .str b].any fun y => eqF y (.str x)) = _
  simp only [List.any_cons, List.any_nil, eqF_str, beq_str, Bool.or_false]
def Row.own : Row → Bool
  | .wait _ => true
  | .fin => true
  | _ => false
def Row.upto (r : Row) (many : Nat) : Prop := ∀ l, r.line = some l → l ≤ many
/-- a row that may stand -/
structure Row.ok (p : Prog) (many : Nat) (own : Bool) (r : Row) : Prop where
  form : r.form
  fits : r.fits p
  upto : r.upto many
  own_ : r.own = true → own = true
theorem le_dec {l m : Nat} (h : l ≤ m) : decide ((l : Int) ≤ (m : Int)) = true := decide_eq_true (by omega)
theorem n_fits_row {p : Prog} {r : Row} {many : Nat} {own : Bool} (hm : p.ms.length ≤ 1000) (h : r.ok p many own) : f_fits_row [.val p.enc, .val r.enc, .val (.int many), .val (.bool own)] = ret (.bool true) := by
  have h1 := n_is_row h.form
  have h2 := n_fits_names hm h.fits
  have h3 := n_line_in r
  have h4 := h.upto
  have h5 := h.own_
  have hw : own = true ∨ r.own = false := by
    cases e : r.own with
    | false => exact .inr rfl
    | true => exact .inl (h5 e)
  clear h h5
  unfold f_fits_row evF s_fits_row
  cases own with
  | true =>
    simp -implicitDefEqProofs only [evSs, evS, evE, evAnd, evOr, evL, evA, evO, evC, evI, froz, thaw_nil, thaw, behind_nil, behind_int, behind_bool, behind_str, behind_none, behind_tup, behind_lst, isFeed, asB, asI, isNone_none, isNone_bool, isNone_int, isNone_str, isNone_tup, isNone_lst, mb_ret, mb_bad, mb_mb, ofO_ret, ofO_bad, List.getElem?_cons_zero, List.getElem?_cons_succ, List.cons_append, List.nil_append, List.replicate, List.length_cons, List.length_nil, List.set_cons_zero, List.set_cons_succ, bindT_nm, bindT_tp, setAll, setO, Option.map_some, Option.map_none, List.map_cons, List.map_nil, wipeR, ite_tt, ite_ft, if_true, if_false, Nat.reduceAdd, Nat.reduceSub, Bool.false_eq_true, tyD, cop_in, cop_le_int, ix_t0, at_16_is_row_1, at_16_line_in_1, at_16_fits_names_2, con_16_OWN_WORDS, inlit2, ofS_inj, String.reduceEq, decide_false, decide_true, Bool.or_true, Bool.true_or, Bool.or_false, Bool.false_or, Bool.not_true, Bool.not_false, h1, h2, h3]
    cases hl : r.line with
    | none => simp -implicitDefEqProofs only [evSs, evS, evE, evAnd, evOr, evL, evA, evO, evC, evI, froz, thaw_nil, thaw, behind_nil, behind_int, behind_bool, behind_str, behind_none, behind_tup, behind_lst, isFeed, asB, asI, isNone_none, isNone_bool, isNone_int, isNone_str, isNone_tup, isNone_lst, mb_ret, mb_bad, mb_mb, ofO_ret, ofO_bad, List.getElem?_cons_zero, List.getElem?_cons_succ, List.cons_append, List.nil_append, List.replicate, List.length_cons, List.length_nil, List.set_cons_zero, List.set_cons_succ, bindT_nm, bindT_tp, setAll, setO, Option.map_some, Option.map_none, List.map_cons, List.map_nil, wipeR, ite_tt, ite_ft, if_true, if_false, Nat.reduceAdd, Nat.reduceSub, Bool.false_eq_true, optD, h2]
    | some l =>
      have h6 := le_dec (h4 l hl)
      simp -implicitDefEqProofs only [evSs, evS, evE, evAnd, evOr, evL, evA, evO, evC, evI, froz, thaw_nil, thaw, behind_nil, behind_int, behind_bool, behind_str, behind_none, behind_tup, behind_lst, isFeed, asB, asI, isNone_none, isNone_bool, isNone_int, isNone_str, isNone_tup, isNone_lst, mb_ret, mb_bad, mb_mb, ofO_ret, ofO_bad, List.getElem?_cons_zero, List.getElem?_cons_succ, List.cons_append, List.nil_append, List.replicate, List.length_cons, List.length_nil, List.set_cons_zero, List.set_cons_succ, bindT_nm, bindT_tp, setAll, setO, Option.map_some, Option.map_none, List.map_cons, List.map_nil, wipeR, ite_tt, ite_ft, if_true, if_false, Nat.reduceAdd, Nat.reduceSub, Bool.false_eq_true, optD, cop_le_int, h6, h2]
  | false =>
    have h7 : r.own = false := hw.resolve_left (by decide)
    have h8 : ∃ w t, r.enc = .tuple (.str w :: t) ∧ (decide (w = "wait") || decide (w = "end")) = false := by
      cases r with
      | wait f => cases h7
      | fin => cases h7
      | _ => exact ⟨_, _, rfl, by simp only [ofS_inj, String.reduceEq, decide_false, Bool.or_false]⟩
    obtain ⟨w, t, e1, e2⟩ := h8
    rw [e1] at h1 h2 h3 ⊢
    simp -implicitDefEqProofs only [evSs, evS, evE, evAnd, evOr, evL, evA, evO, evC, evI, froz, thaw_nil, thaw, behind_nil, behind_int, behind_bool, behind_str, behind_none, behind_tup, behind_lst, isFeed, asB, asI, isNone_none, isNone_bool, isNone_int, isNone_str, isNone_tup, isNone_lst, mb_ret, mb_bad, mb_mb, ofO_ret, ofO_bad, List.getElem?_cons_zero, List.getElem?_cons_succ, List.cons_append, List.nil_append, List.replicate, List.length_cons, List.length_nil, List.set_cons_zero, List.set_cons_succ, bindT_nm, bindT_tp, setAll, setO, Option.map_some, Option.map_none, List.map_cons, List.map_nil, wipeR, ite_tt, ite_ft, if_true, if_false, Nat.reduceAdd, Nat.reduceSub, Bool.false_eq_true, tyD, cop_in, cop_le_int, ix_t0, at_16_is_row_1, at_16_line_in_1, at_16_fits_names_2, con_16_OWN_WORDS, inlit2, ofS_inj, String.reduceEq, decide_false, decide_true, Bool.or_true, Bool.true_or, Bool.or_false, Bool.false_or, Bool.not_true, Bool.not_false, h1, h2, h3, e2]
    cases hl : r.line with
    | none => simp -implicitDefEqProofs only [evSs, evS, evE, evAnd, evOr, evL, evA, evO, evC, evI, froz, thaw_nil, thaw, behind_nil, behind_int, behind_bool, behind_str, behind_none, behind_tup, behind_lst, isFeed, asB, asI, isNone_none, isNone_bool, isNone_int, isNone_str, isNone_tup, isNone_lst, mb_ret, mb_bad, mb_mb, ofO_ret, ofO_bad, List.getElem?_cons_zero, List.getElem?_cons_succ, List.cons_append, List.nil_append, List.replicate, List.length_cons, List.length_nil, List.set_cons_zero, List.set_cons_succ, bindT_nm, bindT_tp, setAll, setO, Option.map_some, Option.map_none, List.map_cons, List.map_nil, wipeR, ite_tt, ite_ft, if_true, if_false, Nat.reduceAdd, Nat.reduceSub, Bool.false_eq_true, optD, h2]
    | some l =>
      have h6 := le_dec (h4 l hl)
      simp -implicitDefEqProofs only [evSs, evS, evE, evAnd, evOr, evL, evA, evO, evC, evI, froz, thaw_nil, thaw, behind_nil, behind_int, behind_bool, behind_str, behind_none, behind_tup, behind_lst, isFeed, asB, asI, isNone_none, isNone_bool, isNone_int, isNone_str, isNone_tup, isNone_lst, mb_ret, mb_bad, mb_mb, ofO_ret, ofO_bad, List.getElem?_cons_zero, List.getElem?_cons_succ, List.cons_append, List.nil_append, List.replicate, List.length_cons, List.length_nil, List.set_cons_zero, List.set_cons_succ, bindT_nm, bindT_tp, setAll, setO, Option.map_some, Option.map_none, List.map_cons, List.map_nil, wipeR, ite_tt, ite_ft, if_true, if_false, Nat.reduceAdd, Nat.reduceSub, Bool.false_eq_true, optD, cop_le_int, h6, h2]
end Qv.K5

namespace Qv.K5
open PySem Tx
/-! ### loops that look for a fault -/
theorem forL_ok {f : D → Rho → M Fl} {I : Rho → Prop} : ∀ (xs : List D) (ρ : Rho), I ρ → (∀ x ∈ xs, ∀ ρ, I ρ → ∃ ρ', f x ρ = ret (.nx ρ') ∧ I ρ') → ∃ ρ', forL f xs ρ = ret (.nx ρ') ∧ I ρ'
  | [], ρ, h, _ => ⟨ρ, rfl, h⟩
  | x :: r, ρ, h, hf => by
    obtain ⟨ρ1, e1, h1⟩ := hf x List.mem_cons_self ρ h
    obtain ⟨ρ2, e2, h2⟩ := forL_ok r ρ1 h1 fun y hy => hf y (List.mem_cons_of_mem _ hy)
    refine ⟨ρ2, ?_, h2⟩
    unfold forL
    rw [e1]
    exact e2
theorem mem_enum {xs : List D} {y : D} (h : y ∈ enumFrom 0 xs) : ∃ (i : Nat) (x : D), xs[i]? = some x ∧ y = .tuple [.int i, x] := by
  obtain ⟨i, hi⟩ := List.mem_iff_getElem?.mp h
  obtain ⟨x, h1, h2⟩ := enum_get xs 0 i y hi
  exact ⟨i, x, h1, by rw [h2, Int.zero_add]⟩
theorem get_map {α : Type} {f : α → D} {l : List α} {i : Nat} {d : D} (h : (l.map f)[i]? = some d) : ∃ x, l[i]? = some x ∧ d = f x := by
  rw [List.getElem?_map] at h
  obtain ⟨x, h1, h2⟩ := Option.map_eq_some_iff.mp h
  exact ⟨x, h1, h2.symm⟩
def Asc (l : List Str) : Prop := ∀ (i : Nat) (x y : Str), l[i]? = some x → l[i + 1]? = some y → ltS x y = true
theorem sub1 (i : Nat) : ((i + 1 : Nat) : Int) - 1 = (i : Int) := by omega
theorem cop_le_str (a b : Str) : cop .le (.str a) (.str b) = some (!ltS b a) := rfl
theorem n_name_at_fault {l : List Str} (h1 : ∀ x ∈ l, nameOk x = true) (h2 : Asc l) : f_name_at_fault [.val (.tuple (l.map .str))] = ret .none := by
  unfold f_name_at_fault evF s_name_at_fault
  simp -implicitDefEqProofs only [evSs, evS, evE, evAnd, evOr, evL, evA, evO, evC, evI, froz, thaw_nil, thaw, behind_nil, behind_int, behind_bool, behind_str, behind_none, behind_tup, behind_lst, isFeed, asB, asI, isNone_none, isNone_bool, isNone_int, isNone_str, isNone_tup, isNone_lst, mb_ret, mb_bad, mb_mb, ofO_ret, ofO_bad, List.getElem?_cons_zero, List.getElem?_cons_succ, List.cons_append, List.nil_append, List.replicate, List.length_cons, List.length_nil, List.set_cons_zero, List.set_cons_succ, bindT_nm, bindT_tp, setAll, setO, Option.map_some, Option.map_none, List.map_cons, List.map_nil, wipeR, ite_tt, ite_ft, if_true, if_false, Nat.reduceAdd, Nat.reduceSub, Bool.false_eq_true]
  obtain ⟨ρ', e, _⟩ := forL_ok (I := fun ρ => ∃ a b, ρ = [.val (.tuple (l.map .str)), a, b]) (f := fun x ρ' => mb (ofO (bindT (.tp [1, 2]) x ρ')) fun ρ2 => evSs G_26 fuel s_name_at_fault_b1 ρ2) (enumFrom 0 (l.map .str)) [.val (.tuple (l.map .str)), .emp, .emp] ⟨_, _, rfl⟩ (fun y hy ρ hρ => by
    unfold s_name_at_fault_b1
    obtain ⟨a, b, rfl⟩ := hρ
    obtain ⟨i, d, hd, rfl⟩ := mem_enum hy
    obtain ⟨x, hx, rfl⟩ := get_map hd
    have hn := n_is_name (h1 x (List.mem_of_getElem? hx))
    refine ⟨[.val (.tuple (l.map .str)), .val (.int i), .val (.str x)], ?_, _, _, rfl⟩
    cases i with
    | zero => simp -implicitDefEqProofs only [evSs, evS, evE, evAnd, evOr, evL, evA, evO, evC, evI, froz, thaw_nil, thaw, behind_nil, behind_int, behind_bool, behind_str, behind_none, behind_tup, behind_lst, isFeed, asB, asI, isNone_none, isNone_bool, isNone_int, isNone_str, isNone_tup, isNone_lst, mb_ret, mb_bad, mb_mb, ofO_ret, ofO_bad, List.getElem?_cons_zero, List.getElem?_cons_succ, List.cons_append, List.nil_append, List.replicate, List.length_cons, List.length_nil, List.set_cons_zero, List.set_cons_succ, bindT_nm, bindT_tp, setAll, setO, Option.map_some, Option.map_none, List.map_cons, List.map_nil, wipeR, ite_tt, ite_ft, if_true, if_false, Nat.reduceAdd, Nat.reduceSub, Bool.false_eq_true, at_26_is_name_1, hn, Bool.not_true, cop_gt_int, nc0, Int.lt_irrefl, decide_false]
    | succ j =>
      obtain ⟨z, hz⟩ : ∃ z, l[j]? = some z := ⟨_, List.getElem?_eq_getElem (by have := (List.getElem?_eq_some_iff.mp hx).1; omega)⟩
      have hlt := h2 j z x hz hx
      have hix : ixD (.tuple (l.map .str)) (.int (j : Int)) = some (.str z) := ix_t (by rw [List.getElem?_map, hz]; rfl)
      simp -implicitDefEqProofs only [evSs, evS, evE, evAnd, evOr, evL, evA, evO, evC, evI, froz, thaw_nil, thaw, behind_nil, behind_int, behind_bool, behind_str, behind_none, behind_tup, behind_lst, isFeed, asB, asI, isNone_none, isNone_bool, isNone_int, isNone_str, isNone_tup, isNone_lst, mb_ret, mb_bad, mb_mb, ofO_ret, ofO_bad, List.getElem?_cons_zero, List.getElem?_cons_succ, List.cons_append, List.nil_append, List.replicate, List.length_cons, List.length_nil, List.set_cons_zero, List.set_cons_succ, bindT_nm, bindT_tp, setAll, setO, Option.map_some, Option.map_none, List.map_cons, List.map_nil, wipeR, ite_tt, ite_ft, if_true, if_false, Nat.reduceAdd, Nat.reduceSub, Bool.false_eq_true, at_26_is_name_1, hn, Bool.not_true, cop_gt_int, pos1, bop_sub_int, sub1, hix, cop_le_str, hlt])
  rw [e]
  simp -implicitDefEqProofs only [evSs, evS, evE, evAnd, evOr, evL, evA, evO, evC, evI, froz, thaw_nil, thaw, behind_nil, behind_int, behind_bool, behind_str, behind_none, behind_tup, behind_lst, isFeed, asB, asI, isNone_none, isNone_bool, isNone_int, isNone_str, isNone_tup, isNone_lst, mb_ret, mb_bad, mb_mb, ofO_ret, ofO_bad, List.getElem?_cons_zero, List.getElem?_cons_succ, List.cons_append, List.nil_append, List.replicate, List.length_cons, List.length_nil, List.set_cons_zero, List.set_cons_succ, bindT_nm, bindT_tp, setAll, setO, Option.map_some, Option.map_none, List.map_cons, List.map_nil, wipeR, ite_tt, ite_ft, if_true, if_false, Nat.reduceAdd, Nat.reduceSub, Bool.false_eq_true]
theorem n_is_right_pair {a b : Str} {sec : D} (h1 : nameOk a = true) (h2 : inD (.str b) sec = some true) : f_is_right_pair [.val (pr (a, b)), .val sec] = ret (.bool true) := by
  have hn := n_is_name h1
  unfold f_is_right_pair evF s_is_right_pair pr
  simp -implicitDefEqProofs only [evSs, evS, evE, evAnd, evOr, evL, evA, evO, evC, evI, froz, thaw_nil, thaw, behind_nil, behind_int, behind_bool, behind_str, behind_none, behind_tup, behind_lst, isFeed, asB, asI, isNone_none, isNone_bool, isNone_int, isNone_str, isNone_tup, isNone_lst, mb_ret, mb_bad, mb_mb, ofO_ret, ofO_bad, List.getElem?_cons_zero, List.getElem?_cons_succ, List.cons_append, List.nil_append, List.replicate, List.length_cons, List.length_nil, List.set_cons_zero, List.set_cons_succ, bindT_nm, bindT_tp, setAll, setO, Option.map_some, Option.map_none, List.map_cons, List.map_nil, wipeR, ite_tt, ite_ft, if_true, if_false, Nat.reduceAdd, Nat.reduceSub, Bool.false_eq_true, tyD, bi_len_t, cop_ne_int, cop_in, ix_t0, ix_t1, nc2, Int.reduceBEq, Bool.not_true, Bool.not_false, at_27_is_name_1, hn, h2]
def AscP (l : List (Str × Str)) : Prop := ∀ (i : Nat) (x y : Str × Str), l[i]? = some x → l[i + 1]? = some y → ltS x.1 y.1 = true
theorem n_pair_at_fault {l : List (Str × Str)} {sec bar : D} (h1 : ∀ q ∈ l, nameOk q.1 = true ∧ inD (.str q.2) sec = some true ∧ inD (.str q.1) bar = some false) (h2 : AscP l) : f_pair_at_fault [.val (.tuple (l.map pr)), .val sec, .val bar] = ret .none := by
  unfold f_pair_at_fault evF s_pair_at_fault
  simp -implicitDefEqProofs only [evSs, evS, evE, evAnd, evOr, evL, evA, evO, evC, evI, froz, thaw_nil, thaw, behind_nil, behind_int, behind_bool, behind_str, behind_none, behind_tup, behind_lst, isFeed, asB, asI, isNone_none, isNone_bool, isNone_int, isNone_str, isNone_tup, isNone_lst, mb_ret, mb_bad, mb_mb, ofO_ret, ofO_bad, List.getElem?_cons_zero, List.getElem?_cons_succ, List.cons_append, List.nil_append, List.replicate, List.length_cons, List.length_nil, List.set_cons_zero, List.set_cons_succ, bindT_nm, bindT_tp, setAll, setO, Option.map_some, Option.map_none, List.map_cons, List.map_nil, wipeR, ite_tt, ite_ft, if_true, if_false, Nat.reduceAdd, Nat.reduceSub, Bool.false_eq_true]
  obtain ⟨ρ', e, _⟩ := forL_ok (I := fun ρ => ∃ a b, ρ = [.val (.tuple (l.map pr)), .val sec, .val bar, a, b]) (f := fun x ρ' => mb (ofO (bindT (.tp [3, 4]) x ρ')) fun ρ2 => evSs G_28 fuel s_pair_at_fault_b1 ρ2) (enumFrom 0 (l.map pr)) [.val (.tuple (l.map pr)), .val sec, .val bar, .emp, .emp] ⟨_, _, rfl⟩ (fun y hy ρ hρ => by
    unfold s_pair_at_fault_b1
    obtain ⟨a, b, rfl⟩ := hρ
    obtain ⟨i, d, hd, rfl⟩ := mem_enum hy
    obtain ⟨x, hx, rfl⟩ := get_map hd
    obtain ⟨k1, k2, k3⟩ := h1 x (List.mem_of_getElem? hx)
    have hn : f_is_right_pair [.val (.tuple [.str x.1, .str x.2]), .val sec] = ret (.bool true) := n_is_right_pair (a := x.1) (b := x.2) k1 k2
    refine ⟨[.val (.tuple (l.map pr)), .val sec, .val bar, .val (.int i), .val (pr x)], ?_, _, _, rfl⟩
    unfold pr
    cases i with
    | zero => simp -implicitDefEqProofs only [evSs, evS, evE, evAnd, evOr, evL, evA, evO, evC, evI, froz, thaw_nil, thaw, behind_nil, behind_int, behind_bool, behind_str, behind_none, behind_tup, behind_lst, isFeed, asB, asI, isNone_none, isNone_bool, isNone_int, isNone_str, isNone_tup, isNone_lst, mb_ret, mb_bad, mb_mb, ofO_ret, ofO_bad, List.getElem?_cons_zero, List.getElem?_cons_succ, List.cons_append, List.nil_append, List.replicate, List.length_cons, List.length_nil, List.set_cons_zero, List.set_cons_succ, bindT_nm, bindT_tp, setAll, setO, Option.map_some, Option.map_none, List.map_cons, List.map_nil, wipeR, ite_tt, ite_ft, if_true, if_false, Nat.reduceAdd, Nat.reduceSub, Bool.false_eq_true, at_28_is_right_pair_2, hn, Bool.not_true, cop_gt_int, cop_in, ix_t0, k3, nc0, Int.lt_irrefl, decide_false]
    | succ j =>
      obtain ⟨z, hz⟩ : ∃ z, l[j]? = some z := ⟨_, List.getElem?_eq_getElem (by have := (List.getElem?_eq_some_iff.mp hx).1; omega)⟩
      have hlt := h2 j z x hz hx
      have hix : ixD (.tuple (l.map fun q => PyData.tuple [.str q.1, .str q.2])) (.int (j : Int)) = some (.tuple [.str z.1, .str z.2]) := ix_t (by rw [List.getElem?_map, hz]; rfl)
      simp -implicitDefEqProofs only [evSs, evS, evE, evAnd, evOr, evL, evA, evO, evC, evI, froz, thaw_nil, thaw, behind_nil, behind_int, behind_bool, behind_str, behind_none, behind_tup, behind_lst, isFeed, asB, asI, isNone_none, isNone_bool, isNone_int, isNone_str, isNone_tup, isNone_lst, mb_ret, mb_bad, mb_mb, ofO_ret, ofO_bad, List.getElem?_cons_zero, List.getElem?_cons_succ, List.cons_append, List.nil_append, List.replicate, List.length_cons, List.length_nil, List.set_cons_zero, List.set_cons_succ, bindT_nm, bindT_tp, setAll, setO, Option.map_some, Option.map_none, List.map_cons, List.map_nil, wipeR, ite_tt, ite_ft, if_true, if_false, Nat.reduceAdd, Nat.reduceSub, Bool.false_eq_true, at_28_is_right_pair_2, hn, Bool.not_true, Bool.not_false, cop_gt_int, cop_in, ix_t0, k3, pos1, bop_sub_int, sub1, hix, cop_le_str, hlt])
  rw [e]
  simp -implicitDefEqProofs only [evSs, evS, evE, evAnd, evOr, evL, evA, evO, evC, evI, froz, thaw_nil, thaw, behind_nil, behind_int, behind_bool, behind_str, behind_none, behind_tup, behind_lst, isFeed, asB, asI, isNone_none, isNone_bool, isNone_int, isNone_str, isNone_tup, isNone_lst, mb_ret, mb_bad, mb_mb, ofO_ret, ofO_bad, List.getElem?_cons_zero, List.getElem?_cons_succ, List.cons_append, List.nil_append, List.replicate, List.length_cons, List.length_nil, List.set_cons_zero, List.set_cons_succ, bindT_nm, bindT_tp, setAll, setO, Option.map_some, Option.map_none, List.map_cons, List.map_nil, wipeR, ite_tt, ite_ft, if_true, if_false, Nat.reduceAdd, Nat.reduceSub, Bool.false_eq_true]
theorem n_row_at_fault {p : Prog} {rows : List Row} {own : Bool} (hm : p.ms.length ≤ 1000) (h : ∀ r ∈ rows, r.ok p rows.length own) : f_row_at_fault [.val p.enc, .val (encRows rows), .val (.bool own)] = ret .none := by
  unfold f_row_at_fault evF s_row_at_fault encRows
  simp -implicitDefEqProofs only [evSs, evS, evE, evAnd, evOr, evL, evA, evO, evC, evI, froz, thaw_nil, thaw, behind_nil, behind_int, behind_bool, behind_str, behind_none, behind_tup, behind_lst, isFeed, asB, asI, isNone_none, isNone_bool, isNone_int, isNone_str, isNone_tup, isNone_lst, mb_ret, mb_bad, mb_mb, ofO_ret, ofO_bad, List.getElem?_cons_zero, List.getElem?_cons_succ, List.cons_append, List.nil_append, List.replicate, List.length_cons, List.length_nil, List.set_cons_zero, List.set_cons_succ, bindT_nm, bindT_tp, setAll, setO, Option.map_some, Option.map_none, List.map_cons, List.map_nil, wipeR, ite_tt, ite_ft, if_true, if_false, Nat.reduceAdd, Nat.reduceSub, Bool.false_eq_true]
  obtain ⟨ρ', e, _⟩ := forL_ok (I := fun ρ => ∃ a b, ρ = [.val p.enc, .val (.tuple (rows.map Row.enc)), .val (.bool own), a, b]) (f := fun x ρ' => mb (ofO (bindT (.tp [3, 4]) x ρ')) fun ρ2 => evSs G_24 fuel s_row_at_fault_b1 ρ2) (enumFrom 0 (rows.map Row.enc)) [.val p.enc, .val (.tuple (rows.map Row.enc)), .val (.bool own), .emp, .emp] ⟨_, _, rfl⟩ (fun y hy ρ hρ => by
    unfold s_row_at_fault_b1
    obtain ⟨a, b, rfl⟩ := hρ
    obtain ⟨i, d, hd, rfl⟩ := mem_enum hy
    obtain ⟨x, hx, rfl⟩ := get_map hd
    have hn := n_fits_row hm (h x (List.mem_of_getElem? hx))
    refine ⟨[.val p.enc, .val (.tuple (rows.map Row.enc)), .val (.bool own), .val (.int i), .val x.enc], ?_, _, _, rfl⟩
    simp -implicitDefEqProofs only [evSs, evS, evE, evAnd, evOr, evL, evA, evO, evC, evI, froz, thaw_nil, thaw, behind_nil, behind_int, behind_bool, behind_str, behind_none, behind_tup, behind_lst, isFeed, asB, asI, isNone_none, isNone_bool, isNone_int, isNone_str, isNone_tup, isNone_lst, mb_ret, mb_bad, mb_mb, ofO_ret, ofO_bad, List.getElem?_cons_zero, List.getElem?_cons_succ, List.cons_append, List.nil_append, List.replicate, List.length_cons, List.length_nil, List.set_cons_zero, List.set_cons_succ, bindT_nm, bindT_tp, setAll, setO, Option.map_some, Option.map_none, List.map_cons, List.map_nil, wipeR, ite_tt, ite_ft, if_true, if_false, Nat.reduceAdd, Nat.reduceSub, Bool.false_eq_true, at_24_fits_row_4, bi_len_t, List.length_map, hn, Bool.not_true])
  rw [e]
  simp -implicitDefEqProofs only [evSs, evS, evE, evAnd, evOr, evL, evA, evO, evC, evI, froz, thaw_nil, thaw, behind_nil, behind_int, behind_bool, behind_str, behind_none, behind_tup, behind_lst, isFeed, asB, asI, isNone_none, isNone_bool, isNone_int, isNone_str, isNone_tup, isNone_lst, mb_ret, mb_bad, mb_mb, ofO_ret, ofO_bad, List.getElem?_cons_zero, List.getElem?_cons_succ, List.cons_append, List.nil_append, List.replicate, List.length_cons, List.length_nil, List.set_cons_zero, List.set_cons_succ, bindT_nm, bindT_tp, setAll, setO, Option.map_some, Option.map_none, List.map_cons, List.map_nil, wipeR, ite_tt, ite_ft, if_true, if_false, Nat.reduceAdd, Nat.reduceSub, Bool.false_eq_true]
end Qv.K5

namespace Qv.K5
open PySem Tx
theorem enc_head {r : Row} (h : r.own = false) : ∃ w t, r.enc = .tuple (.str w :: t) ∧ (decide (w = "wait") || decide (w = "end")) = false := by
  cases r with
  | wait f => cases h
  | fin => cases h
  | _ => exact ⟨_, _, rfl, by simp only [ofS_inj, String.reduceEq, decide_false, Bool.or_false]⟩
theorem n_is_inner_row {r : Row} (h : r.form) (ho : r.own = false) : f_is_inner_row [.val r.enc] = ret (.bool true) := by
  have h1 := n_is_row h
  obtain ⟨w, t, e1, e2⟩ := enc_head ho
  unfold f_is_inner_row evF s_is_inner_row
  rw [e1] at h1 ⊢
  simp -implicitDefEqProofs only [evSs, evS, evE, evAnd, evOr, evL, evA, evO, evC, evI, froz, thaw_nil, thaw, behind_nil, behind_int, behind_bool, behind_str, behind_none, behind_tup, behind_lst, isFeed, asB, asI, isNone_none, isNone_bool, isNone_int, isNone_str, isNone_tup, isNone_lst, mb_ret, mb_bad, mb_mb, ofO_ret, ofO_bad, List.getElem?_cons_zero, List.getElem?_cons_succ, List.cons_append, List.nil_append, List.replicate, List.length_cons, List.length_nil, List.set_cons_zero, List.set_cons_succ, bindT_nm, bindT_tp, setAll, setO, Option.map_some, Option.map_none, List.map_cons, List.map_nil, wipeR, ite_tt, ite_ft, if_true, if_false, Nat.reduceAdd, Nat.reduceSub, Bool.false_eq_true, at_22_is_row_1, h1, ix_t0, cop_nin, con_22_OWN_WORDS, inlit2, e2, Bool.not_false]
theorem n_is_bell {b : Bell} (h1 : nameOk b.name = true) (h2 : ∀ r ∈ b.rows, r.form ∧ r.own = false) (hl : b.rows.length ≤ 1000) : f_is_bell [.val b.enc] = ret (.bool true) := by
  have hn := n_is_name h1
  unfold f_is_bell evF s_is_bell Bell.enc encRows
  simp -implicitDefEqProofs only [evSs, evS, evE, evAnd, evOr, evL, evA, evO, evC, evI, froz, thaw_nil, thaw, behind_nil, behind_int, behind_bool, behind_str, behind_none, behind_tup, behind_lst, isFeed, asB, asI, isNone_none, isNone_bool, isNone_int, isNone_str, isNone_tup, isNone_lst, mb_ret, mb_bad, mb_mb, ofO_ret, ofO_bad, List.getElem?_cons_zero, List.getElem?_cons_succ, List.cons_append, List.nil_append, List.replicate, List.length_cons, List.length_nil, List.set_cons_zero, List.set_cons_succ, bindT_nm, bindT_tp, setAll, setO, Option.map_some, Option.map_none, List.map_cons, List.map_nil, wipeR, ite_tt, ite_ft, if_true, if_false, Nat.reduceAdd, Nat.reduceSub, Bool.false_eq_true, tyD, bi_len_t, cop_ne_int, nc4, Int.reduceBEq, Bool.not_true, Bool.not_false, at_23_is_name_1, ix_t0, ix_t1, ix_t2, ix_t3, hn, itemsOf]
  rw [compL_of (g := fun _ => .bool true) fun r hr => by
    have hi := n_is_inner_row (h2 r hr).1 (h2 r hr).2
    simp -implicitDefEqProofs only [evSs, evS, evE, evAnd, evOr, evL, evA, evO, evC, evI, froz, thaw_nil, thaw, behind_nil, behind_int, behind_bool, behind_str, behind_none, behind_tup, behind_lst, isFeed, asB, asI, isNone_none, isNone_bool, isNone_int, isNone_str, isNone_tup, isNone_lst, mb_ret, mb_bad, mb_mb, ofO_ret, ofO_bad, List.getElem?_cons_zero, List.getElem?_cons_succ, List.cons_append, List.nil_append, List.replicate, List.length_cons, List.length_nil, List.set_cons_zero, List.set_cons_succ, bindT_nm, bindT_tp, setAll, setO, Option.map_some, Option.map_none, List.map_cons, List.map_nil, wipeR, ite_tt, ite_ft, if_true, if_false, Nat.reduceAdd, Nat.reduceSub, Bool.false_eq_true, at_23_is_inner_row_1, hi]]
  have h3 : lenOk (b.rows.map fun _ => PyData.bool true).length = true := by
    rw [List.length_map]
    exact lenOk_of (by omega)
  have h4 : b.rows.all (fun _ => true) = true := all_is fun _ _ => rfl
  simp -implicitDefEqProofs only [evSs, evS, evE, evAnd, evOr, evL, evA, evO, evC, evI, froz, thaw_nil, thaw, behind_nil, behind_int, behind_bool, behind_str, behind_none, behind_tup, behind_lst, isFeed, asB, asI, isNone_none, isNone_bool, isNone_int, isNone_str, isNone_tup, isNone_lst, mb_ret, mb_bad, mb_mb, ofO_ret, ofO_bad, List.getElem?_cons_zero, List.getElem?_cons_succ, List.cons_append, List.nil_append, List.replicate, List.length_cons, List.length_nil, List.set_cons_zero, List.set_cons_succ, bindT_nm, bindT_tp, setAll, setO, Option.map_some, Option.map_none, List.map_cons, List.map_nil, wipeR, ite_tt, ite_ft, if_true, if_false, Nat.reduceAdd, Nat.reduceSub, Bool.false_eq_true, h3, bi_all_map (fun _ : Row => true), h4]
def isKind (x : Str) : Bool := decide (x = "counted") || (decide (x = "mute") || decide (x = "timed"))
structure Prog.ok (p : Prog) : Prop where
  stNe : p.st ≠ []
  st : ∀ q ∈ p.st, nameOk q.1 = true ∧ isKind q.2 = true
  stA : AscP p.st
  ms : ∀ q ∈ p.ms, nameOk q.1 = true ∧ place q.1 = false ∧ q.2 ∈ p.st.map (·.1)
  msA : AscP p.ms
  fl : ∀ x ∈ p.fl, nameOk x = true
  flA : Asc p.fl
  to : ∀ x ∈ p.to, nameOk x = true
  toA : Asc p.to
  rowsNe : p.rows ≠ []
  rows : ∀ r ∈ p.rows, r.ok p p.rows.length true
  bells : ∀ b ∈ p.bells, nameOk b.name = true ∧ b.rows.length ≤ 1000 ∧ ∀ r ∈ b.rows, r.ok p b.rows.length false
  bellsA : ∀ (i : Nat) (x y : Bell), p.bells[i]? = some x → p.bells[i + 1]? = some y → ltS x.name y.name = true
  few : p.ms.length ≤ 1000 ∧ p.st.length ≤ 1000
theorem Row.ok.inner {p : Prog} {r : Row} {m : Nat} (h : r.ok p m false) : r.own = false := by
  cases e : r.own with
  | false => rfl
  | true => exact absurd (h.own_ e) (by decide)
theorem n_bell_fault {p : Prog} (h : p.ok) : f_bell_fault [.val p.enc] = ret .none := by
  have hx : ixD p.enc (.int 5) = some (.tuple (p.bells.map Bell.enc)) := ix_t5 _ _ _ _ _ _ _
  unfold f_bell_fault evF s_bell_fault
  simp -implicitDefEqProofs only [evSs, evS, evE, evAnd, evOr, evL, evA, evO, evC, evI, froz, thaw_nil, thaw, behind_nil, behind_int, behind_bool, behind_str, behind_none, behind_tup, behind_lst, isFeed, asB, asI, isNone_none, isNone_bool, isNone_int, isNone_str, isNone_tup, isNone_lst, mb_ret, mb_bad, mb_mb, ofO_ret, ofO_bad, List.getElem?_cons_zero, List.getElem?_cons_succ, List.cons_append, List.nil_append, List.replicate, List.length_cons, List.length_nil, List.set_cons_zero, List.set_cons_succ, bindT_nm, bindT_tp, setAll, setO, Option.map_some, Option.map_none, List.map_cons, List.map_nil, wipeR, ite_tt, ite_ft, if_true, if_false, Nat.reduceAdd, Nat.reduceSub, Bool.false_eq_true, hx]
  obtain ⟨ρ', e, a, b, rfl⟩ := forL_ok (I := fun ρ => ∃ a b, ρ = [.val p.enc, .val (.tuple (p.bells.map Bell.enc)), a, b, .emp]) (f := fun x ρ' => mb (ofO (bindT (.tp [2, 3]) x ρ')) fun ρ2 => evSs G_25 fuel s_bell_fault_b2 ρ2) (enumFrom 0 (p.bells.map Bell.enc)) [.val p.enc, .val (.tuple (p.bells.map Bell.enc)), .emp, .emp, .emp] ⟨_, _, rfl⟩ (fun y hy ρ hρ => by
    unfold s_bell_fault_b2
    obtain ⟨a, b, rfl⟩ := hρ
    obtain ⟨i, d, hd, rfl⟩ := mem_enum hy
    obtain ⟨x, hx, rfl⟩ := get_map hd
    obtain ⟨k1, k2, k3⟩ := h.bells x (List.mem_of_getElem? hx)
    have hn := n_is_bell k1 (fun r hr => ⟨(k3 r hr).form, (k3 r hr).inner⟩) k2
    have h0 : ixD x.enc (.int 0) = some (.str x.name) := ix_t0 _ _
    refine ⟨[.val p.enc, .val (.tuple (p.bells.map Bell.enc)), .val (.int i), .val x.enc, .emp], ?_, _, _, rfl⟩
    cases i with
    | zero => simp -implicitDefEqProofs only [evSs, evS, evE, evAnd, evOr, evL, evA, evO, evC, evI, froz, thaw_nil, thaw, behind_nil, behind_int, behind_bool, behind_str, behind_none, behind_tup, behind_lst, isFeed, asB, asI, isNone_none, isNone_bool, isNone_int, isNone_str, isNone_tup, isNone_lst, mb_ret, mb_bad, mb_mb, ofO_ret, ofO_bad, List.getElem?_cons_zero, List.getElem?_cons_succ, List.cons_append, List.nil_append, List.replicate, List.length_cons, List.length_nil, List.set_cons_zero, List.set_cons_succ, bindT_nm, bindT_tp, setAll, setO, Option.map_some, Option.map_none, List.map_cons, List.map_nil, wipeR, ite_tt, ite_ft, if_true, if_false, Nat.reduceAdd, Nat.reduceSub, Bool.false_eq_true, at_25_is_bell_1, hn, Bool.not_true, cop_gt_int, nc0, Int.lt_irrefl, decide_false]
    | succ j =>
      obtain ⟨z, hz⟩ : ∃ z, p.bells[j]? = some z := ⟨_, List.getElem?_eq_getElem (by have := (List.getElem?_eq_some_iff.mp hx).1; omega)⟩
      have hlt := h.bellsA j z x hz hx
      have hix : ixD (.tuple (p.bells.map Bell.enc)) (.int (j : Int)) = some z.enc := ix_t (by rw [List.getElem?_map, hz]; rfl)
      have h0z : ixD z.enc (.int 0) = some (.str z.name) := ix_t0 _ _
      simp -implicitDefEqProofs only [evSs, evS, evE, evAnd, evOr, evL, evA, evO, evC, evI, froz, thaw_nil, thaw, behind_nil, behind_int, behind_bool, behind_str, behind_none, behind_tup, behind_lst, isFeed, asB, asI, isNone_none, isNone_bool, isNone_int, isNone_str, isNone_tup, isNone_lst, mb_ret, mb_bad, mb_mb, ofO_ret, ofO_bad, List.getElem?_cons_zero, List.getElem?_cons_succ, List.cons_append, List.nil_append, List.replicate, List.length_cons, List.length_nil, List.set_cons_zero, List.set_cons_succ, bindT_nm, bindT_tp, setAll, setO, Option.map_some, Option.map_none, List.map_cons, List.map_nil, wipeR, ite_tt, ite_ft, if_true, if_false, Nat.reduceAdd, Nat.reduceSub, Bool.false_eq_true, at_25_is_bell_1, hn, Bool.not_true, Bool.not_false, cop_gt_int, pos1, bop_sub_int, sub1, hix, h0, h0z, cop_le_str, hlt])
  rw [e]
  simp -implicitDefEqProofs only [evSs, evS, evE, evAnd, evOr, evL, evA, evO, evC, evI, froz, thaw_nil, thaw, behind_nil, behind_int, behind_bool, behind_str, behind_none, behind_tup, behind_lst, isFeed, asB, asI, isNone_none, isNone_bool, isNone_int, isNone_str, isNone_tup, isNone_lst, mb_ret, mb_bad, mb_mb, ofO_ret, ofO_bad, List.getElem?_cons_zero, List.getElem?_cons_succ, List.cons_append, List.nil_append, List.replicate, List.length_cons, List.length_nil, List.set_cons_zero, List.set_cons_succ, bindT_nm, bindT_tp, setAll, setO, Option.map_some, Option.map_none, List.map_cons, List.map_nil, wipeR, ite_tt, ite_ft, if_true, if_false, Nat.reduceAdd, Nat.reduceSub, Bool.false_eq_true]
  obtain ⟨ρ', e, _⟩ := forL_ok (I := fun ρ => ∃ a b c, ρ = [.val p.enc, .val (.tuple (p.bells.map Bell.enc)), a, b, c]) (f := fun x ρ' => mb (ofO (bindT (.tp [2, 3]) x ρ')) fun ρ2 => evSs G_25 fuel s_bell_fault_b1 ρ2) (enumFrom 0 (p.bells.map Bell.enc)) [.val p.enc, .val (.tuple (p.bells.map Bell.enc)), a, b, .emp] ⟨_, _, _, rfl⟩ (fun y hy ρ hρ => by
    unfold s_bell_fault_b1
    obtain ⟨a, b, c, rfl⟩ := hρ
    obtain ⟨i, d, hd, rfl⟩ := mem_enum hy
    obtain ⟨x, hx, rfl⟩ := get_map hd
    obtain ⟨k1, k2, k3⟩ := h.bells x (List.mem_of_getElem? hx)
    have hn := n_row_at_fault h.few.1 k3
    have h0 : ixD x.enc (.int 3) = some (encRows x.rows) := ix_t3 _ _ _ _ _
    refine ⟨[.val p.enc, .val (.tuple (p.bells.map Bell.enc)), .val (.int i), .val x.enc, .val .none], ?_, _, _, _, rfl⟩
    simp -implicitDefEqProofs only [evSs, evS, evE, evAnd, evOr, evL, evA, evO, evC, evI, froz, thaw_nil, thaw, behind_nil, behind_int, behind_bool, behind_str, behind_none, behind_tup, behind_lst, isFeed, asB, asI, isNone_none, isNone_bool, isNone_int, isNone_str, isNone_tup, isNone_lst, mb_ret, mb_bad, mb_mb, ofO_ret, ofO_bad, List.getElem?_cons_zero, List.getElem?_cons_succ, List.cons_append, List.nil_append, List.replicate, List.length_cons, List.length_nil, List.set_cons_zero, List.set_cons_succ, bindT_nm, bindT_tp, setAll, setO, Option.map_some, Option.map_none, List.map_cons, List.map_nil, wipeR, ite_tt, ite_ft, if_true, if_false, Nat.reduceAdd, Nat.reduceSub, Bool.false_eq_true, at_25_row_at_fault_3, h0, hn, Bool.not_true])
  rw [e]
  simp -implicitDefEqProofs only [evSs, evS, evE, evAnd, evOr, evL, evA, evO, evC, evI, froz, thaw_nil, thaw, behind_nil, behind_int, behind_bool, behind_str, behind_none, behind_tup, behind_lst, isFeed, asB, asI, isNone_none, isNone_bool, isNone_int, isNone_str, isNone_tup, isNone_lst, mb_ret, mb_bad, mb_mb, ofO_ret, ofO_bad, List.getElem?_cons_zero, List.getElem?_cons_succ, List.cons_append, List.nil_append, List.replicate, List.length_cons, List.length_nil, List.set_cons_zero, List.set_cons_succ, bindT_nm, bindT_tp, setAll, setO, Option.map_some, Option.map_none, List.map_cons, List.map_nil, wipeR, ite_tt, ite_ft, if_true, if_false, Nat.reduceAdd, Nat.reduceSub, Bool.false_eq_true]
theorem inI2 (x a b : Int) : inD (.int x) (.tuple [.int a, .int b]) = some ((a == x) || (b == x)) := by
  show some ([PyData.int a, .int b].any fun y => eqF y (.int x)) = _
  simp only [List.any_cons, List.any_nil, Bool.or_false]
  rfl
theorem in_none (x : Str) : inD (.str x) (.tuple []) = some false := rfl
theorem in_lst (x : Str) (l : List Str) : inD (.str x) (.list (l.map .str)) = some (decide (x ∈ l)) := in_strs x l
theorem succ_ne (n : Nat) : (((n + 1 : Nat) : Int) == 0) = false := by
  rw [beq_eq_false_iff_ne]
  omega
theorem len_ne {α : Type} {l : List α} (h : l ≠ []) : (((l.length : Nat) : Int) == 0) = false := by
  cases l with
  | nil => exact absurd rfl h
  | cons _ r => exact succ_ne r.length
theorem n_part_fault {p : Prog} (h : p.ok) (k : Nat) (hk : k < 6) : f_part_fault [.val p.enc, .val (.int k)] = ret .none := by
  have x0 : ixD p.enc (.int 0) = some (.tuple (p.st.map pr)) := ix_t0 _ _
  have x1 : ixD p.enc (.int 1) = some (.tuple (p.ms.map pr)) := ix_t1 _ _ _
  have x2 : ixD p.enc (.int 2) = some (.tuple (p.fl.map .str)) := ix_t2 _ _ _ _
  have x3 : ixD p.enc (.int 3) = some (.tuple (p.to.map .str)) := ix_t3 _ _ _ _ _
  have x4 : ixD p.enc (.int 4) = some (encRows p.rows) := ix_t4 _ _ _ _ _ _
  have x5 : ixD p.enc (.int 5) = some (.tuple (p.bells.map Bell.enc)) := ix_t5 _ _ _ _ _ _ _
  unfold f_part_fault evF s_part_fault
  match k, hk with
  | 0, _ =>
    have e := n_pair_at_fault (l := p.st) (sec := .tuple [.str "counted", .str "mute", .str "timed"]) (bar := .tuple []) (fun q hq => ⟨(h.st q hq).1, by rw [inlit3]; exact congrArg some (h.st q hq).2, in_none _⟩) h.stA
    have hl := len_ne h.stNe
    simp -implicitDefEqProofs only [evSs, evS, evE, evAnd, evOr, evL, evA, evO, evC, evI, froz, thaw_nil, thaw, behind_nil, behind_int, behind_bool, behind_str, behind_none, behind_tup, behind_lst, isFeed, asB, asI, isNone_none, isNone_bool, isNone_int, isNone_str, isNone_tup, isNone_lst, mb_ret, mb_bad, mb_mb, ofO_ret, ofO_bad, List.getElem?_cons_zero, List.getElem?_cons_succ, List.cons_append, List.nil_append, List.replicate, List.length_cons, List.length_nil, List.set_cons_zero, List.set_cons_succ, bindT_nm, bindT_tp, setAll, setO, Option.map_some, Option.map_none, List.map_cons, List.map_nil, wipeR, ite_tt, ite_ft, if_true, if_false, Nat.reduceAdd, Nat.reduceSub, Bool.false_eq_true, tyD, cop_in, cop_eq_int, bi_len_t, inI2, Int.reduceBEq, Bool.or_true, Bool.true_or, Bool.or_false, Bool.false_or, Bool.not_true, Bool.not_false, List.length_map, at_29_pair_at_fault_3, at_29_row_at_fault_3, at_29_name_at_fault_1, at_29_bell_fault_1, con_29_STRETCH_KINDS, con_29_PLACES, nc0, x0, hl, e]
  | 1, _ =>
    have e := n_pair_at_fault (l := p.ms) (sec := .list ((p.st.map (·.1)).map .str)) (bar := .tuple [.str "start", .str "end", .str "stop"]) (fun q hq => ⟨(h.ms q hq).1, by rw [in_lst]; exact congrArg some (decide_eq_true (h.ms q hq).2.2), by rw [in_places, (h.ms q hq).2.1]⟩) h.msA
    rw [List.map_map] at e
    simp -implicitDefEqProofs only [evSs, evS, evE, evAnd, evOr, evL, evA, evO, evC, evI, froz, thaw_nil, thaw, behind_nil, behind_int, behind_bool, behind_str, behind_none, behind_tup, behind_lst, isFeed, asB, asI, isNone_none, isNone_bool, isNone_int, isNone_str, isNone_tup, isNone_lst, mb_ret, mb_bad, mb_mb, ofO_ret, ofO_bad, List.getElem?_cons_zero, List.getElem?_cons_succ, List.cons_append, List.nil_append, List.replicate, List.length_cons, List.length_nil, List.set_cons_zero, List.set_cons_succ, bindT_nm, bindT_tp, setAll, setO, Option.map_some, Option.map_none, List.map_cons, List.map_nil, wipeR, ite_tt, ite_ft, if_true, if_false, Nat.reduceAdd, Nat.reduceSub, Bool.false_eq_true, tyD, cop_in, cop_eq_int, bi_len_t, inI2, Int.reduceBEq, Bool.or_true, Bool.true_or, Bool.or_false, Bool.false_or, Bool.not_true, Bool.not_false, List.length_map, at_29_pair_at_fault_3, at_29_row_at_fault_3, at_29_name_at_fault_1, at_29_bell_fault_1, con_29_STRETCH_KINDS, con_29_PLACES, nc1, x0, x1, itemsOf]
    rw [compL_of (g := fun q : Str × Str => .str q.1) fun q _ => by
      unfold pr
      simp -implicitDefEqProofs only [evSs, evS, evE, evAnd, evOr, evL, evA, evO, evC, evI, froz, thaw_nil, thaw, behind_nil, behind_int, behind_bool, behind_str, behind_none, behind_tup, behind_lst, isFeed, asB, asI, isNone_none, isNone_bool, isNone_int, isNone_str, isNone_tup, isNone_lst, mb_ret, mb_bad, mb_mb, ofO_ret, ofO_bad, List.getElem?_cons_zero, List.getElem?_cons_succ, List.cons_append, List.nil_append, List.replicate, List.length_cons, List.length_nil, List.set_cons_zero, List.set_cons_succ, bindT_nm, bindT_tp, setAll, setO, Option.map_some, Option.map_none, List.map_cons, List.map_nil, wipeR, ite_tt, ite_ft, if_true, if_false, Nat.reduceAdd, Nat.reduceSub, Bool.false_eq_true]]
    have h3 : lenOk (p.st.map fun q : Str × Str => PyData.str q.1).length = true := by
      rw [List.length_map]
      exact lenOk_of (by have := h.few.2; omega)
    have e' : f_pair_at_fault [.val (.tuple (p.ms.map pr)), .val (.list (p.st.map fun q : Str × Str => PyData.str q.1)), .val (.tuple [.str "start", .str "end", .str "stop"])] = ret .none := e
    simp -implicitDefEqProofs only [evSs, evS, evE, evAnd, evOr, evL, evA, evO, evC, evI, froz, thaw_nil, thaw, behind_nil, behind_int, behind_bool, behind_str, behind_none, behind_tup, behind_lst, isFeed, asB, asI, isNone_none, isNone_bool, isNone_int, isNone_str, isNone_tup, isNone_lst, mb_ret, mb_bad, mb_mb, ofO_ret, ofO_bad, List.getElem?_cons_zero, List.getElem?_cons_succ, List.cons_append, List.nil_append, List.replicate, List.length_cons, List.length_nil, List.set_cons_zero, List.set_cons_succ, bindT_nm, bindT_tp, setAll, setO, Option.map_some, Option.map_none, List.map_cons, List.map_nil, wipeR, ite_tt, ite_ft, if_true, if_false, Nat.reduceAdd, Nat.reduceSub, Bool.false_eq_true, h3, e', Bool.not_true]
  | 2, _ =>
    have e := n_name_at_fault h.fl h.flA
    simp -implicitDefEqProofs only [evSs, evS, evE, evAnd, evOr, evL, evA, evO, evC, evI, froz, thaw_nil, thaw, behind_nil, behind_int, behind_bool, behind_str, behind_none, behind_tup, behind_lst, isFeed, asB, asI, isNone_none, isNone_bool, isNone_int, isNone_str, isNone_tup, isNone_lst, mb_ret, mb_bad, mb_mb, ofO_ret, ofO_bad, List.getElem?_cons_zero, List.getElem?_cons_succ, List.cons_append, List.nil_append, List.replicate, List.length_cons, List.length_nil, List.set_cons_zero, List.set_cons_succ, bindT_nm, bindT_tp, setAll, setO, Option.map_some, Option.map_none, List.map_cons, List.map_nil, wipeR, ite_tt, ite_ft, if_true, if_false, Nat.reduceAdd, Nat.reduceSub, Bool.false_eq_true, tyD, cop_in, cop_eq_int, bi_len_t, inI2, Int.reduceBEq, Bool.or_true, Bool.true_or, Bool.or_false, Bool.false_or, Bool.not_true, Bool.not_false, List.length_map, at_29_pair_at_fault_3, at_29_row_at_fault_3, at_29_name_at_fault_1, at_29_bell_fault_1, con_29_STRETCH_KINDS, con_29_PLACES, nc2, x2, e]
  | 3, _ =>
    have e := n_name_at_fault h.to h.toA
    simp -implicitDefEqProofs only [evSs, evS, evE, evAnd, evOr, evL, evA, evO, evC, evI, froz, thaw_nil, thaw, behind_nil, behind_int, behind_bool, behind_str, behind_none, behind_tup, behind_lst, isFeed, asB, asI, isNone_none, isNone_bool, isNone_int, isNone_str, isNone_tup, isNone_lst, mb_ret, mb_bad, mb_mb, ofO_ret, ofO_bad, List.getElem?_cons_zero, List.getElem?_cons_succ, List.cons_append, List.nil_append, List.replicate, List.length_cons, List.length_nil, List.set_cons_zero, List.set_cons_succ, bindT_nm, bindT_tp, setAll, setO, Option.map_some, Option.map_none, List.map_cons, List.map_nil, wipeR, ite_tt, ite_ft, if_true, if_false, Nat.reduceAdd, Nat.reduceSub, Bool.false_eq_true, tyD, cop_in, cop_eq_int, bi_len_t, inI2, Int.reduceBEq, Bool.or_true, Bool.true_or, Bool.or_false, Bool.false_or, Bool.not_true, Bool.not_false, List.length_map, at_29_pair_at_fault_3, at_29_row_at_fault_3, at_29_name_at_fault_1, at_29_bell_fault_1, con_29_STRETCH_KINDS, con_29_PLACES, nc3, x3, e]
  | 4, _ =>
    have e := n_row_at_fault h.few.1 h.rows
    have hl := len_ne h.rowsNe
    unfold encRows at e x4
    simp -implicitDefEqProofs only [evSs, evS, evE, evAnd, evOr, evL, evA, evO, evC, evI, froz, thaw_nil, thaw, behind_nil, behind_int, behind_bool, behind_str, behind_none, behind_tup, behind_lst, isFeed, asB, asI, isNone_none, isNone_bool, isNone_int, isNone_str, isNone_tup, isNone_lst, mb_ret, mb_bad, mb_mb, ofO_ret, ofO_bad, List.getElem?_cons_zero, List.getElem?_cons_succ, List.cons_append, List.nil_append, List.replicate, List.length_cons, List.length_nil, List.set_cons_zero, List.set_cons_succ, bindT_nm, bindT_tp, setAll, setO, Option.map_some, Option.map_none, List.map_cons, List.map_nil, wipeR, ite_tt, ite_ft, if_true, if_false, Nat.reduceAdd, Nat.reduceSub, Bool.false_eq_true, tyD, cop_in, cop_eq_int, bi_len_t, inI2, Int.reduceBEq, Bool.or_true, Bool.true_or, Bool.or_false, Bool.false_or, Bool.not_true, Bool.not_false, List.length_map, at_29_pair_at_fault_3, at_29_row_at_fault_3, at_29_name_at_fault_1, at_29_bell_fault_1, con_29_STRETCH_KINDS, con_29_PLACES, nc4, x4, hl, e]
  | 5, _ =>
    have e := n_bell_fault h
    simp -implicitDefEqProofs only [evSs, evS, evE, evAnd, evOr, evL, evA, evO, evC, evI, froz, thaw_nil, thaw, behind_nil, behind_int, behind_bool, behind_str, behind_none, behind_tup, behind_lst, isFeed, asB, asI, isNone_none, isNone_bool, isNone_int, isNone_str, isNone_tup, isNone_lst, mb_ret, mb_bad, mb_mb, ofO_ret, ofO_bad, List.getElem?_cons_zero, List.getElem?_cons_succ, List.cons_append, List.nil_append, List.replicate, List.length_cons, List.length_nil, List.set_cons_zero, List.set_cons_succ, bindT_nm, bindT_tp, setAll, setO, Option.map_some, Option.map_none, List.map_cons, List.map_nil, wipeR, ite_tt, ite_ft, if_true, if_false, Nat.reduceAdd, Nat.reduceSub, Bool.false_eq_true, tyD, cop_in, cop_eq_int, bi_len_t, inI2, Int.reduceBEq, Bool.or_true, Bool.true_or, Bool.or_false, Bool.false_or, Bool.not_true, Bool.not_false, List.length_map, at_29_pair_at_fault_3, at_29_row_at_fault_3, at_29_name_at_fault_1, at_29_bell_fault_1, con_29_STRETCH_KINDS, con_29_PLACES, nc5, x5, e]
theorem mem_rng {n : Nat} {y : D} (h : y ∈ rngL 0 n) : ∃ i : Nat, i < n ∧ y = .int i := by
  obtain ⟨i, hi⟩ := List.mem_iff_getElem?.mp h
  obtain ⟨h1, h2⟩ := rngL_get n 0 i y hi
  exact ⟨i, h2, by rw [h1, Int.zero_add]⟩
theorem n_program_fault {p : Prog} (h : p.ok) : f_program_fault [.val p.enc] = ret .none := by
  have x0 : ixD p.enc (.int 0) = some (.tuple (p.st.map pr)) := ix_t0 _ _
  have x4 : ixD p.enc (.int 4) = some (encRows p.rows) := ix_t4 _ _ _ _ _ _
  have hp : p.enc = .tuple [.tuple (p.st.map pr), .tuple (p.ms.map pr), .tuple (p.fl.map .str), .tuple (p.to.map .str), encRows p.rows, .tuple (p.bells.map Bell.enc)] := rfl
  have hl := len_ne h.stNe
  have hl4 := len_ne h.rowsNe
  unfold encRows at x4 hp
  have hr : rngOk 6 = true := rfl
  have h6 : ((6 : Int).toNat) = 6 := rfl
  obtain ⟨ρ', e, _⟩ := forL_ok (I := fun ρ => ∃ a b c, ρ = [.val p.enc, a, b, c]) (f := fun x ρ' => evSs G_30 fuel s_program_fault_b1 (ρ'.set 1 (.val x))) (rngL 0 6) [.val p.enc, .emp, .emp, .emp] ⟨_, _, _, rfl⟩ (fun y hy ρ hρ => by
    unfold s_program_fault_b1
    obtain ⟨a, b, c, rfl⟩ := hρ
    obtain ⟨i, hi, rfl⟩ := mem_rng hy
    have hn := n_part_fault h i hi
    refine ⟨[.val p.enc, .val (.int i), .val .none, c], ?_, _, _, _, rfl⟩
    simp -implicitDefEqProofs only [evSs, evS, evE, evAnd, evOr, evL, evA, evO, evC, evI, froz, thaw_nil, thaw, behind_nil, behind_int, behind_bool, behind_str, behind_none, behind_tup, behind_lst, isFeed, asB, asI, isNone_none, isNone_bool, isNone_int, isNone_str, isNone_tup, isNone_lst, mb_ret, mb_bad, mb_mb, ofO_ret, ofO_bad, List.getElem?_cons_zero, List.getElem?_cons_succ, List.cons_append, List.nil_append, List.replicate, List.length_cons, List.length_nil, List.set_cons_zero, List.set_cons_succ, bindT_nm, bindT_tp, setAll, setO, Option.map_some, Option.map_none, List.map_cons, List.map_nil, wipeR, ite_tt, ite_ft, if_true, if_false, Nat.reduceAdd, Nat.reduceSub, Bool.false_eq_true, at_30_part_fault_2, hn, Bool.not_true])
  unfold f_program_fault evF s_program_fault
  rw [hp] at x0 x4 e ⊢
  simp -implicitDefEqProofs only [evSs, evS, evE, evAnd, evOr, evL, evA, evO, evC, evI, froz, thaw_nil, thaw, behind_nil, behind_int, behind_bool, behind_str, behind_none, behind_tup, behind_lst, isFeed, asB, asI, isNone_none, isNone_bool, isNone_int, isNone_str, isNone_tup, isNone_lst, mb_ret, mb_bad, mb_mb, ofO_ret, ofO_bad, List.getElem?_cons_zero, List.getElem?_cons_succ, List.cons_append, List.nil_append, List.replicate, List.length_cons, List.length_nil, List.set_cons_zero, List.set_cons_succ, bindT_nm, bindT_tp, setAll, setO, Option.map_some, Option.map_none, List.map_cons, List.map_nil, wipeR, ite_tt, ite_ft, if_true, if_false, Nat.reduceAdd, Nat.reduceSub, Bool.false_eq_true, tyD, bi_len_t, cop_ne_int, cop_eq_int, nc6, Int.reduceBEq, Bool.not_true, Bool.not_false, itemsOf, compL, lenOk, Nat.reduceLeDiff, decide_true, bi_all_l, boolsOf, List.all_cons, List.all_nil, id, Bool.and_true, Bool.true_and, x0, x4, List.length_map, hl, hl4, hr, h6]
  rw [e]
  simp -implicitDefEqProofs only [evSs, evS, evE, evAnd, evOr, evL, evA, evO, evC, evI, froz, thaw_nil, thaw, behind_nil, behind_int, behind_bool, behind_str, behind_none, behind_tup, behind_lst, isFeed, asB, asI, isNone_none, isNone_bool, isNone_int, isNone_str, isNone_tup, isNone_lst, mb_ret, mb_bad, mb_mb, ofO_ret, ofO_bad, List.getElem?_cons_zero, List.getElem?_cons_succ, List.cons_append, List.nil_append, List.replicate, List.length_cons, List.length_nil, List.set_cons_zero, List.set_cons_succ, bindT_nm, bindT_tp, setAll, setO, Option.map_some, Option.map_none, List.map_cons, List.map_nil, wipeR, ite_tt, ite_ft, if_true, if_false, Nat.reduceAdd, Nat.reduceSub, Bool.false_eq_true]
theorem n_is_program {p : Prog} (h : p.ok) : f_is_program [.val p.enc] = ret (.bool true) := by
  have e := n_program_fault h
  unfold f_is_program evF s_is_program
  simp -implicitDefEqProofs only [evSs, evS, evE, evAnd, evOr, evL, evA, evO, evC, evI, froz, thaw_nil, thaw, behind_nil, behind_int, behind_bool, behind_str, behind_none, behind_tup, behind_lst, isFeed, asB, asI, isNone_none, isNone_bool, isNone_int, isNone_str, isNone_tup, isNone_lst, mb_ret, mb_bad, mb_mb, ofO_ret, ofO_bad, List.getElem?_cons_zero, List.getElem?_cons_succ, List.cons_append, List.nil_append, List.replicate, List.length_cons, List.length_nil, List.set_cons_zero, List.set_cons_succ, bindT_nm, bindT_tp, setAll, setO, Option.map_some, Option.map_none, List.map_cons, List.map_nil, wipeR, ite_tt, ite_ft, if_true, if_false, Nat.reduceAdd, Nat.reduceSub, Bool.false_eq_true, at_31_program_fault_1, e]
end Qv.K5

namespace Qv.K5
open PySem Tx
/-! ### lines led on -/
def Row.put : Row → Nat → Row
  | .gone m _, l => .gone m l
  | .told a _, l => .told a l
  | .ask f _, l => .ask f l
  | .go _, l => .go l
  | r, _ => r
def Row.up (k : Nat) (r : Row) : Row := match r.line with
  | some l => if l < k then r else r.put (l + 1)
  | none => r
def Row.down (k : Nat) (r : Row) : Row := match r.line with
  | some l => if l < k then r else r.put (l - 1)
  | none => r
theorem slm2 (a b : D) : slD (.tuple [a, b]) none (some (-1)) = some (.tuple [a]) := rfl
theorem slm3 (a b c : D) : slD (.tuple [a, b, c]) none (some (-1)) = some (.tuple [a, b]) := rfl
theorem bop_add_t (x y : List D) : bop .add (.tuple x) (.tuple y) = if lenOk (x.length + y.length) then some (.tuple (x ++ y)) else none := rfl
theorem bop_add_l (x y : List D) : bop .add (.list x) (.list y) = if lenOk (x.length + y.length) then some (.list (x ++ y)) else none := rfl
theorem lt_dec {l k : Nat} : decide ((l : Int) < (k : Int)) = decide (l < k) := by
  by_cases h : l < k
  · rw [decide_eq_true h, decide_eq_true (by omega)]
  · rw [decide_eq_false h, decide_eq_false (by omega)]
theorem cast_succ (l : Nat) : ((l : Int) + 1) = ((l + 1 : Nat) : Int) := by omega
theorem n_led_up (r : Row) (k : Nat) : f_led_on [.val r.enc, .val (.int k), .val (.int 1)] = ret (r.up k).enc := by
  have h3 := n_line_in r
  unfold f_led_on evF s_led_on
  simp -implicitDefEqProofs only [evSs, evS, evE, evAnd, evOr, evL, evA, evO, evC, evI, froz, thaw_nil, thaw, behind_nil, behind_int, behind_bool, behind_str, behind_none, behind_tup, behind_lst, isFeed, asB, asI, isNone_none, isNone_bool, isNone_int, isNone_str, isNone_tup, isNone_lst, mb_ret, mb_bad, mb_mb, ofO_ret, ofO_bad, List.getElem?_cons_zero, List.getElem?_cons_succ, List.cons_append, List.nil_append, List.replicate, List.length_cons, List.length_nil, List.set_cons_zero, List.set_cons_succ, bindT_nm, bindT_tp, setAll, setO, Option.map_some, Option.map_none, List.map_cons, List.map_nil, wipeR, ite_tt, ite_ft, if_true, if_false, Nat.reduceAdd, Nat.reduceSub, Bool.false_eq_true, at_18_line_in_1, h3]
  unfold Row.up
  cases hl : r.line with
  | none => simp -implicitDefEqProofs only [evSs, evS, evE, evAnd, evOr, evL, evA, evO, evC, evI, froz, thaw_nil, thaw, behind_nil, behind_int, behind_bool, behind_str, behind_none, behind_tup, behind_lst, isFeed, asB, asI, isNone_none, isNone_bool, isNone_int, isNone_str, isNone_tup, isNone_lst, mb_ret, mb_bad, mb_mb, ofO_ret, ofO_bad, List.getElem?_cons_zero, List.getElem?_cons_succ, List.cons_append, List.nil_append, List.replicate, List.length_cons, List.length_nil, List.set_cons_zero, List.set_cons_succ, bindT_nm, bindT_tp, setAll, setO, Option.map_some, Option.map_none, List.map_cons, List.map_nil, wipeR, ite_tt, ite_ft, if_true, if_false, Nat.reduceAdd, Nat.reduceSub, Bool.false_eq_true, optD]
  | some l =>
    simp -implicitDefEqProofs only [evSs, evS, evE, evAnd, evOr, evL, evA, evO, evC, evI, froz, thaw_nil, thaw, behind_nil, behind_int, behind_bool, behind_str, behind_none, behind_tup, behind_lst, isFeed, asB, asI, isNone_none, isNone_bool, isNone_int, isNone_str, isNone_tup, isNone_lst, mb_ret, mb_bad, mb_mb, ofO_ret, ofO_bad, List.getElem?_cons_zero, List.getElem?_cons_succ, List.cons_append, List.nil_append, List.replicate, List.length_cons, List.length_nil, List.set_cons_zero, List.set_cons_succ, bindT_nm, bindT_tp, setAll, setO, Option.map_some, Option.map_none, List.map_cons, List.map_nil, wipeR, ite_tt, ite_ft, if_true, if_false, Nat.reduceAdd, Nat.reduceSub, Bool.false_eq_true, optD, cop_lt_int, lt_dec]
    by_cases hk : l < k
    · simp -implicitDefEqProofs only [evSs, evS, evE, evAnd, evOr, evL, evA, evO, evC, evI, froz, thaw_nil, thaw, behind_nil, behind_int, behind_bool, behind_str, behind_none, behind_tup, behind_lst, isFeed, asB, asI, isNone_none, isNone_bool, isNone_int, isNone_str, isNone_tup, isNone_lst, mb_ret, mb_bad, mb_mb, ofO_ret, ofO_bad, List.getElem?_cons_zero, List.getElem?_cons_succ, List.cons_append, List.nil_append, List.replicate, List.length_cons, List.length_nil, List.set_cons_zero, List.set_cons_succ, bindT_nm, bindT_tp, setAll, setO, Option.map_some, Option.map_none, List.map_cons, List.map_nil, wipeR, ite_tt, ite_ft, if_true, if_false, Nat.reduceAdd, Nat.reduceSub, Bool.false_eq_true, decide_eq_true hk, if_pos hk]
    · have hd := decide_eq_false hk
      simp only [if_neg hk]
      cases r with
      | gone m j => cases hl; simp -implicitDefEqProofs only [evSs, evS, evE, evAnd, evOr, evL, evA, evO, evC, evI, froz, thaw_nil, thaw, behind_nil, behind_int, behind_bool, behind_str, behind_none, behind_tup, behind_lst, isFeed, asB, asI, isNone_none, isNone_bool, isNone_int, isNone_str, isNone_tup, isNone_lst, mb_ret, mb_bad, mb_mb, ofO_ret, ofO_bad, List.getElem?_cons_zero, List.getElem?_cons_succ, List.cons_append, List.nil_append, List.replicate, List.length_cons, List.length_nil, List.set_cons_zero, List.set_cons_succ, bindT_nm, bindT_tp, setAll, setO, Option.map_some, Option.map_none, List.map_cons, List.map_nil, wipeR, ite_tt, ite_ft, if_true, if_false, Nat.reduceAdd, Nat.reduceSub, Bool.false_eq_true, hd, Row.enc, Row.put, slm2, slm3, Int.reduceNeg, bop_add_int, bop_add_t, lenOk, Nat.reduceLeDiff, decide_true, cast_succ]
      | told m j => cases hl; simp -implicitDefEqProofs only [evSs, evS, evE, evAnd, evOr, evL, evA, evO, evC, evI, froz, thaw_nil, thaw, behind_nil, behind_int, behind_bool, behind_str, behind_none, behind_tup, behind_lst, isFeed, asB, asI, isNone_none, isNone_bool, isNone_int, isNone_str, isNone_tup, isNone_lst, mb_ret, mb_bad, mb_mb, ofO_ret, ofO_bad, List.getElem?_cons_zero, List.getElem?_cons_succ, List.cons_append, List.nil_append, List.replicate, List.length_cons, List.length_nil, List.set_cons_zero, List.set_cons_succ, bindT_nm, bindT_tp, setAll, setO, Option.map_some, Option.map_none, List.map_cons, List.map_nil, wipeR, ite_tt, ite_ft, if_true, if_false, Nat.reduceAdd, Nat.reduceSub, Bool.false_eq_true, hd, Row.enc, Row.put, slm2, slm3, Int.reduceNeg, bop_add_int, bop_add_t, lenOk, Nat.reduceLeDiff, decide_true, cast_succ]
      | ask m j => cases hl; simp -implicitDefEqProofs only [evSs, evS, evE, evAnd, evOr, evL, evA, evO, evC, evI, froz, thaw_nil, thaw, behind_nil, behind_int, behind_bool, behind_str, behind_none, behind_tup, behind_lst, isFeed, asB, asI, isNone_none, isNone_bool, isNone_int, isNone_str, isNone_tup, isNone_lst, mb_ret, mb_bad, mb_mb, ofO_ret, ofO_bad, List.getElem?_cons_zero, List.getElem?_cons_succ, List.cons_append, List.nil_append, List.replicate, List.length_cons, List.length_nil, List.set_cons_zero, List.set_cons_succ, bindT_nm, bindT_tp, setAll, setO, Option.map_some, Option.map_none, List.map_cons, List.map_nil, wipeR, ite_tt, ite_ft, if_true, if_false, Nat.reduceAdd, Nat.reduceSub, Bool.false_eq_true, hd, Row.enc, Row.put, slm2, slm3, Int.reduceNeg, bop_add_int, bop_add_t, lenOk, Nat.reduceLeDiff, decide_true, cast_succ]
      | go j => cases hl; simp -implicitDefEqProofs only [evSs, evS, evE, evAnd, evOr, evL, evA, evO, evC, evI, froz, thaw_nil, thaw, behind_nil, behind_int, behind_bool, behind_str, behind_none, behind_tup, behind_lst, isFeed, asB, asI, isNone_none, isNone_bool, isNone_int, isNone_str, isNone_tup, isNone_lst, mb_ret, mb_bad, mb_mb, ofO_ret, ofO_bad, List.getElem?_cons_zero, List.getElem?_cons_succ, List.cons_append, List.nil_append, List.replicate, List.length_cons, List.length_nil, List.set_cons_zero, List.set_cons_succ, bindT_nm, bindT_tp, setAll, setO, Option.map_some, Option.map_none, List.map_cons, List.map_nil, wipeR, ite_tt, ite_ft, if_true, if_false, Nat.reduceAdd, Nat.reduceSub, Bool.false_eq_true, hd, Row.enc, Row.put, slm2, slm3, Int.reduceNeg, bop_add_int, bop_add_t, lenOk, Nat.reduceLeDiff, decide_true, cast_succ]
      | _ => cases hl
theorem cast_pred {l k : Nat} (h : ¬ l < k) (hk : 1 ≤ k) : ((l : Int) + -1) = ((l - 1 : Nat) : Int) := by omega
theorem n_led_down (r : Row) (k : Nat) (h1 : 1 ≤ k) : f_led_on [.val r.enc, .val (.int k), .val (.int (-1))] = ret (r.down k).enc := by
  have h3 := n_line_in r
  unfold f_led_on evF s_led_on
  simp -implicitDefEqProofs only [evSs, evS, evE, evAnd, evOr, evL, evA, evO, evC, evI, froz, thaw_nil, thaw, behind_nil, behind_int, behind_bool, behind_str, behind_none, behind_tup, behind_lst, isFeed, asB, asI, isNone_none, isNone_bool, isNone_int, isNone_str, isNone_tup, isNone_lst, mb_ret, mb_bad, mb_mb, ofO_ret, ofO_bad, List.getElem?_cons_zero, List.getElem?_cons_succ, List.cons_append, List.nil_append, List.replicate, List.length_cons, List.length_nil, List.set_cons_zero, List.set_cons_succ, bindT_nm, bindT_tp, setAll, setO, Option.map_some, Option.map_none, List.map_cons, List.map_nil, wipeR, ite_tt, ite_ft, if_true, if_false, Nat.reduceAdd, Nat.reduceSub, Bool.false_eq_true, at_18_line_in_1, h3]
  unfold Row.down
  cases hl : r.line with
  | none => simp -implicitDefEqProofs only [evSs, evS, evE, evAnd, evOr, evL, evA, evO, evC, evI, froz, thaw_nil, thaw, behind_nil, behind_int, behind_bool, behind_str, behind_none, behind_tup, behind_lst, isFeed, asB, asI, isNone_none, isNone_bool, isNone_int, isNone_str, isNone_tup, isNone_lst, mb_ret, mb_bad, mb_mb, ofO_ret, ofO_bad, List.getElem?_cons_zero, List.getElem?_cons_succ, List.cons_append, List.nil_append, List.replicate, List.length_cons, List.length_nil, List.set_cons_zero, List.set_cons_succ, bindT_nm, bindT_tp, setAll, setO, Option.map_some, Option.map_none, List.map_cons, List.map_nil, wipeR, ite_tt, ite_ft, if_true, if_false, Nat.reduceAdd, Nat.reduceSub, Bool.false_eq_true, optD]
  | some l =>
    simp -implicitDefEqProofs only [evSs, evS, evE, evAnd, evOr, evL, evA, evO, evC, evI, froz, thaw_nil, thaw, behind_nil, behind_int, behind_bool, behind_str, behind_none, behind_tup, behind_lst, isFeed, asB, asI, isNone_none, isNone_bool, isNone_int, isNone_str, isNone_tup, isNone_lst, mb_ret, mb_bad, mb_mb, ofO_ret, ofO_bad, List.getElem?_cons_zero, List.getElem?_cons_succ, List.cons_append, List.nil_append, List.replicate, List.length_cons, List.length_nil, List.set_cons_zero, List.set_cons_succ, bindT_nm, bindT_tp, setAll, setO, Option.map_some, Option.map_none, List.map_cons, List.map_nil, wipeR, ite_tt, ite_ft, if_true, if_false, Nat.reduceAdd, Nat.reduceSub, Bool.false_eq_true, optD, cop_lt_int, lt_dec]
    by_cases hk : l < k
    · simp -implicitDefEqProofs only [evSs, evS, evE, evAnd, evOr, evL, evA, evO, evC, evI, froz, thaw_nil, thaw, behind_nil, behind_int, behind_bool, behind_str, behind_none, behind_tup, behind_lst, isFeed, asB, asI, isNone_none, isNone_bool, isNone_int, isNone_str, isNone_tup, isNone_lst, mb_ret, mb_bad, mb_mb, ofO_ret, ofO_bad, List.getElem?_cons_zero, List.getElem?_cons_succ, List.cons_append, List.nil_append, List.replicate, List.length_cons, List.length_nil, List.set_cons_zero, List.set_cons_succ, bindT_nm, bindT_tp, setAll, setO, Option.map_some, Option.map_none, List.map_cons, List.map_nil, wipeR, ite_tt, ite_ft, if_true, if_false, Nat.reduceAdd, Nat.reduceSub, Bool.false_eq_true, decide_eq_true hk, if_pos hk]
    · have hd := decide_eq_false hk
      simp only [if_neg hk]
      cases r with
      | gone m j => cases hl; simp -implicitDefEqProofs only [evSs, evS, evE, evAnd, evOr, evL, evA, evO, evC, evI, froz, thaw_nil, thaw, behind_nil, behind_int, behind_bool, behind_str, behind_none, behind_tup, behind_lst, isFeed, asB, asI, isNone_none, isNone_bool, isNone_int, isNone_str, isNone_tup, isNone_lst, mb_ret, mb_bad, mb_mb, ofO_ret, ofO_bad, List.getElem?_cons_zero, List.getElem?_cons_succ, List.cons_append, List.nil_append, List.replicate, List.length_cons, List.length_nil, List.set_cons_zero, List.set_cons_succ, bindT_nm, bindT_tp, setAll, setO, Option.map_some, Option.map_none, List.map_cons, List.map_nil, wipeR, ite_tt, ite_ft, if_true, if_false, Nat.reduceAdd, Nat.reduceSub, Bool.false_eq_true, hd, Row.enc, Row.put, slm2, slm3, Int.reduceNeg, bop_add_int, bop_add_t, lenOk, Nat.reduceLeDiff, decide_true, cast_pred hk h1]
      | told m j => cases hl; simp -implicitDefEqProofs only [evSs, evS, evE, evAnd, evOr, evL, evA, evO, evC, evI, froz, thaw_nil, thaw, behind_nil, behind_int, behind_bool, behind_str, behind_none, behind_tup, behind_lst, isFeed, asB, asI, isNone_none, isNone_bool, isNone_int, isNone_str, isNone_tup, isNone_lst, mb_ret, mb_bad, mb_mb, ofO_ret, ofO_bad, List.getElem?_cons_zero, List.getElem?_cons_succ, List.cons_append, List.nil_append, List.replicate, List.length_cons, List.length_nil, List.set_cons_zero, List.set_cons_succ, bindT_nm, bindT_tp, setAll, setO, Option.map_some, Option.map_none, List.map_cons, List.map_nil, wipeR, ite_tt, ite_ft, if_true, if_false, Nat.reduceAdd, Nat.reduceSub, Bool.false_eq_true, hd, Row.enc, Row.put, slm2, slm3, Int.reduceNeg, bop_add_int, bop_add_t, lenOk, Nat.reduceLeDiff, decide_true, cast_pred hk h1]
      | ask m j => cases hl; simp -implicitDefEqProofs only [evSs, evS, evE, evAnd, evOr, evL, evA, evO, evC, evI, froz, thaw_nil, thaw, behind_nil, behind_int, behind_bool, behind_str, behind_none, behind_tup, behind_lst, isFeed, asB, asI, isNone_none, isNone_bool, isNone_int, isNone_str, isNone_tup, isNone_lst, mb_ret, mb_bad, mb_mb, ofO_ret, ofO_bad, List.getElem?_cons_zero, List.getElem?_cons_succ, List.cons_append, List.nil_append, List.replicate, List.length_cons, List.length_nil, List.set_cons_zero, List.set_cons_succ, bindT_nm, bindT_tp, setAll, setO, Option.map_some, Option.map_none, List.map_cons, List.map_nil, wipeR, ite_tt, ite_ft, if_true, if_false, Nat.reduceAdd, Nat.reduceSub, Bool.false_eq_true, hd, Row.enc, Row.put, slm2, slm3, Int.reduceNeg, bop_add_int, bop_add_t, lenOk, Nat.reduceLeDiff, decide_true, cast_pred hk h1]
      | go j => cases hl; simp -implicitDefEqProofs only [evSs, evS, evE, evAnd, evOr, evL, evA, evO, evC, evI, froz, thaw_nil, thaw, behind_nil, behind_int, behind_bool, behind_str, behind_none, behind_tup, behind_lst, isFeed, asB, asI, isNone_none, isNone_bool, isNone_int, isNone_str, isNone_tup, isNone_lst, mb_ret, mb_bad, mb_mb, ofO_ret, ofO_bad, List.getElem?_cons_zero, List.getElem?_cons_succ, List.cons_append, List.nil_append, List.replicate, List.length_cons, List.length_nil, List.set_cons_zero, List.set_cons_succ, bindT_nm, bindT_tp, setAll, setO, Option.map_some, Option.map_none, List.map_cons, List.map_nil, wipeR, ite_tt, ite_ft, if_true, if_false, Nat.reduceAdd, Nat.reduceSub, Bool.false_eq_true, hd, Row.enc, Row.put, slm2, slm3, Int.reduceNeg, bop_add_int, bop_add_t, lenOk, Nat.reduceLeDiff, decide_true, cast_pred hk h1]
      | _ => cases hl
/-! ### the list of rows that is meant -/
def ringD : Option Str → D
  | none => .none
  | some x => .str x
def Prog.list (p : Prog) : Option Str → List Row
  | none => p.rows
  | some x => (((p.bells.filter fun b => decide (b.name = x)).map (·.rows)).head?).getD []
def Prog.has (p : Prog) : Option Str → Prop
  | none => True
  | some x => ∃ b ∈ p.bells, b.name = x
theorem n_list_of {p : Prog} {ring : Option Str} (h : p.has ring) (hb : p.bells.length ≤ 1000) : f_list_of [.val p.enc, .val (ringD ring)] = ret (encRows (p.list ring)) := by
  have x4 : ixD p.enc (.int 4) = some (encRows p.rows) := ix_t4 _ _ _ _ _ _
  have x5 : ixD p.enc (.int 5) = some (.tuple (p.bells.map Bell.enc)) := ix_t5 _ _ _ _ _ _ _
  cases ring with
  | none =>
    unfold f_list_of evF s_list_of ringD Prog.list
    simp -implicitDefEqProofs only [evSs, evS, evE, evAnd, evOr, evL, evA, evO, evC, evI, froz, thaw_nil, thaw, behind_nil, behind_int, behind_bool, behind_str, behind_none, behind_tup, behind_lst, isFeed, asB, asI, isNone_none, isNone_bool, isNone_int, isNone_str, isNone_tup, isNone_lst, mb_ret, mb_bad, mb_mb, ofO_ret, ofO_bad, List.getElem?_cons_zero, List.getElem?_cons_succ, List.cons_append, List.nil_append, List.replicate, List.length_cons, List.length_nil, List.set_cons_zero, List.set_cons_succ, bindT_nm, bindT_tp, setAll, setO, Option.map_some, Option.map_none, List.map_cons, List.map_nil, wipeR, ite_tt, ite_ft, if_true, if_false, Nat.reduceAdd, Nat.reduceSub, Bool.false_eq_true, x4]
  | some x =>
    unfold f_list_of evF s_list_of ringD Prog.list
    simp -implicitDefEqProofs only [evSs, evS, evE, evAnd, evOr, evL, evA, evO, evC, evI, froz, thaw_nil, thaw, behind_nil, behind_int, behind_bool, behind_str, behind_none, behind_tup, behind_lst, isFeed, asB, asI, isNone_none, isNone_bool, isNone_int, isNone_str, isNone_tup, isNone_lst, mb_ret, mb_bad, mb_mb, ofO_ret, ofO_bad, List.getElem?_cons_zero, List.getElem?_cons_succ, List.cons_append, List.nil_append, List.replicate, List.length_cons, List.length_nil, List.set_cons_zero, List.set_cons_succ, bindT_nm, bindT_tp, setAll, setO, Option.map_some, Option.map_none, List.map_cons, List.map_nil, wipeR, ite_tt, ite_ft, if_true, if_false, Nat.reduceAdd, Nat.reduceSub, Bool.false_eq_true, x5, itemsOf]
    rw [compL_ofF (p := fun b : Bell => decide (b.name = x)) (g := fun b => encRows b.rows) fun b _ => by
      unfold Bell.enc
      simp -implicitDefEqProofs only [evSs, evS, evE, evAnd, evOr, evL, evA, evO, evC, evI, froz, thaw_nil, thaw, behind_nil, behind_int, behind_bool, behind_str, behind_none, behind_tup, behind_lst, isFeed, asB, asI, isNone_none, isNone_bool, isNone_int, isNone_str, isNone_tup, isNone_lst, mb_ret, mb_bad, mb_mb, ofO_ret, ofO_bad, List.getElem?_cons_zero, List.getElem?_cons_succ, List.cons_append, List.nil_append, List.replicate, List.length_cons, List.length_nil, List.set_cons_zero, List.set_cons_succ, bindT_nm, bindT_tp, setAll, setO, Option.map_some, Option.map_none, List.map_cons, List.map_nil, wipeR, ite_tt, ite_ft, if_true, if_false, Nat.reduceAdd, Nat.reduceSub, Bool.false_eq_true, ix_t0, ix_t3, cop_eq_str]
      cases decide (b.name = x) <;> rfl]
    obtain ⟨b, hb1, hb2⟩ := h
    have hm : b ∈ p.bells.filter fun b => decide (b.name = x) := List.mem_filter.mpr ⟨hb1, decide_eq_true hb2⟩
    have hl := List.length_filter_le (fun b : Bell => decide (b.name = x)) p.bells
    generalize p.bells.filter (fun b => decide (b.name = x)) = f at hm hl
    have h2 : lenOk ((f.map fun b => encRows b.rows)).length = true := by
      rw [List.length_map]
      exact lenOk_of (by omega)
    simp -implicitDefEqProofs only [evSs, evS, evE, evAnd, evOr, evL, evA, evO, evC, evI, froz, thaw_nil, thaw, behind_nil, behind_int, behind_bool, behind_str, behind_none, behind_tup, behind_lst, isFeed, asB, asI, isNone_none, isNone_bool, isNone_int, isNone_str, isNone_tup, isNone_lst, mb_ret, mb_bad, mb_mb, ofO_ret, ofO_bad, List.getElem?_cons_zero, List.getElem?_cons_succ, List.cons_append, List.nil_append, List.replicate, List.length_cons, List.length_nil, List.set_cons_zero, List.set_cons_succ, bindT_nm, bindT_tp, setAll, setO, Option.map_some, Option.map_none, List.map_cons, List.map_nil, wipeR, ite_tt, ite_ft, if_true, if_false, Nat.reduceAdd, Nat.reduceSub, Bool.false_eq_true, h2]
    cases f with
    | nil => cases hm
    | cons y r =>
      simp -implicitDefEqProofs only [evSs, evS, evE, evAnd, evOr, evL, evA, evO, evC, evI, froz, thaw_nil, thaw, behind_nil, behind_int, behind_bool, behind_str, behind_none, behind_tup, behind_lst, isFeed, asB, asI, isNone_none, isNone_bool, isNone_int, isNone_str, isNone_tup, isNone_lst, mb_ret, mb_bad, mb_mb, ofO_ret, ofO_bad, List.getElem?_cons_zero, List.getElem?_cons_succ, List.cons_append, List.nil_append, List.replicate, List.length_cons, List.length_nil, List.set_cons_zero, List.set_cons_succ, bindT_nm, bindT_tp, setAll, setO, Option.map_some, Option.map_none, List.map_cons, List.map_nil, wipeR, ite_tt, ite_ft, if_true, if_false, Nat.reduceAdd, Nat.reduceSub, Bool.false_eq_true, ix_l0]
      rfl
def Bell.swap (x : Str) (rows : List Row) (b : Bell) : Bell := if b.name = x then { b with rows := rows } else b
def Prog.withList (p : Prog) : Option Str → List Row → Prog
  | none, rows => { p with rows := rows }
  | some x, rows => { p with bells := p.bells.map (Bell.swap x rows) }
theorem sl5 (a b c d e f : D) : slD (.tuple [a, b, c, d, e, f]) none (some 5) = some (.tuple [a, b, c, d, e]) := rfl
theorem sl3of4 (a b c d : D) : slD (.tuple [a, b, c, d]) none (some 3) = some (.tuple [a, b, c]) := rfl
theorem n_with_list {p : Prog} {ring : Option Str} {rows : List Row} (hb : p.bells.length ≤ 1000) : f_with_list [.val p.enc, .val (ringD ring), .val (encRows rows)] = ret (p.withList ring rows).enc := by
  cases ring with
  | none =>
    unfold f_with_list evF s_with_list ringD Prog.withList Prog.enc
    simp -implicitDefEqProofs only [evSs, evS, evE, evAnd, evOr, evL, evA, evO, evC, evI, froz, thaw_nil, thaw, behind_nil, behind_int, behind_bool, behind_str, behind_none, behind_tup, behind_lst, isFeed, asB, asI, isNone_none, isNone_bool, isNone_int, isNone_str, isNone_tup, isNone_lst, mb_ret, mb_bad, mb_mb, ofO_ret, ofO_bad, List.getElem?_cons_zero, List.getElem?_cons_succ, List.cons_append, List.nil_append, List.replicate, List.length_cons, List.length_nil, List.set_cons_zero, List.set_cons_succ, bindT_nm, bindT_tp, setAll, setO, Option.map_some, Option.map_none, List.map_cons, List.map_nil, wipeR, ite_tt, ite_ft, if_true, if_false, Nat.reduceAdd, Nat.reduceSub, Bool.false_eq_true, sl4, ix_t5, bop_add_t, lenOk, Nat.reduceLeDiff, decide_true]
  | some x =>
    unfold f_with_list evF s_with_list ringD Prog.withList Prog.enc
    simp -implicitDefEqProofs only [evSs, evS, evE, evAnd, evOr, evL, evA, evO, evC, evI, froz, thaw_nil, thaw, behind_nil, behind_int, behind_bool, behind_str, behind_none, behind_tup, behind_lst, isFeed, asB, asI, isNone_none, isNone_bool, isNone_int, isNone_str, isNone_tup, isNone_lst, mb_ret, mb_bad, mb_mb, ofO_ret, ofO_bad, List.getElem?_cons_zero, List.getElem?_cons_succ, List.cons_append, List.nil_append, List.replicate, List.length_cons, List.length_nil, List.set_cons_zero, List.set_cons_succ, bindT_nm, bindT_tp, setAll, setO, Option.map_some, Option.map_none, List.map_cons, List.map_nil, wipeR, ite_tt, ite_ft, if_true, if_false, Nat.reduceAdd, Nat.reduceSub, Bool.false_eq_true, ix_t5, itemsOf]
    rw [compL_of (g := fun b : Bell => (Bell.swap x rows b).enc) fun b _ => by
      unfold Bell.enc Bell.swap
      by_cases hx : b.name = x
      · simp -implicitDefEqProofs only [evSs, evS, evE, evAnd, evOr, evL, evA, evO, evC, evI, froz, thaw_nil, thaw, behind_nil, behind_int, behind_bool, behind_str, behind_none, behind_tup, behind_lst, isFeed, asB, asI, isNone_none, isNone_bool, isNone_int, isNone_str, isNone_tup, isNone_lst, mb_ret, mb_bad, mb_mb, ofO_ret, ofO_bad, List.getElem?_cons_zero, List.getElem?_cons_succ, List.cons_append, List.nil_append, List.replicate, List.length_cons, List.length_nil, List.set_cons_zero, List.set_cons_succ, bindT_nm, bindT_tp, setAll, setO, Option.map_some, Option.map_none, List.map_cons, List.map_nil, wipeR, ite_tt, ite_ft, if_true, if_false, Nat.reduceAdd, Nat.reduceSub, Bool.false_eq_true, ix_t0, cop_eq_str, decide_eq_true hx, sl3of4, bop_add_t, lenOk, Nat.reduceLeDiff, decide_true, if_pos hx]
      · simp -implicitDefEqProofs only [evSs, evS, evE, evAnd, evOr, evL, evA, evO, evC, evI, froz, thaw_nil, thaw, behind_nil, behind_int, behind_bool, behind_str, behind_none, behind_tup, behind_lst, isFeed, asB, asI, isNone_none, isNone_bool, isNone_int, isNone_str, isNone_tup, isNone_lst, mb_ret, mb_bad, mb_mb, ofO_ret, ofO_bad, List.getElem?_cons_zero, List.getElem?_cons_succ, List.cons_append, List.nil_append, List.replicate, List.length_cons, List.length_nil, List.set_cons_zero, List.set_cons_succ, bindT_nm, bindT_tp, setAll, setO, Option.map_some, Option.map_none, List.map_cons, List.map_nil, wipeR, ite_tt, ite_ft, if_true, if_false, Nat.reduceAdd, Nat.reduceSub, Bool.false_eq_true, ix_t0, cop_eq_str, decide_eq_false hx, if_neg hx]]
    have h2 : lenOk ((p.bells.map fun b => (Bell.swap x rows b).enc)).length = true := by
      rw [List.length_map]
      exact lenOk_of (by omega)
    simp -implicitDefEqProofs only [evSs, evS, evE, evAnd, evOr, evL, evA, evO, evC, evI, froz, thaw_nil, thaw, behind_nil, behind_int, behind_bool, behind_str, behind_none, behind_tup, behind_lst, isFeed, asB, asI, isNone_none, isNone_bool, isNone_int, isNone_str, isNone_tup, isNone_lst, mb_ret, mb_bad, mb_mb, ofO_ret, ofO_bad, List.getElem?_cons_zero, List.getElem?_cons_succ, List.cons_append, List.nil_append, List.replicate, List.length_cons, List.length_nil, List.set_cons_zero, List.set_cons_succ, bindT_nm, bindT_tp, setAll, setO, Option.map_some, Option.map_none, List.map_cons, List.map_nil, wipeR, ite_tt, ite_ft, if_true, if_false, Nat.reduceAdd, Nat.reduceSub, Bool.false_eq_true, h2, sl5, bi_tup_l, bop_add_t]
    have h3 : lenOk 6 = true := rfl
    simp -implicitDefEqProofs only [evSs, evS, evE, evAnd, evOr, evL, evA, evO, evC, evI, froz, thaw_nil, thaw, behind_nil, behind_int, behind_bool, behind_str, behind_none, behind_tup, behind_lst, isFeed, asB, asI, isNone_none, isNone_bool, isNone_int, isNone_str, isNone_tup, isNone_lst, mb_ret, mb_bad, mb_mb, ofO_ret, ofO_bad, List.getElem?_cons_zero, List.getElem?_cons_succ, List.cons_append, List.nil_append, List.replicate, List.length_cons, List.length_nil, List.set_cons_zero, List.set_cons_succ, bindT_nm, bindT_tp, setAll, setO, Option.map_some, Option.map_none, List.map_cons, List.map_nil, wipeR, ite_tt, ite_ft, if_true, if_false, Nat.reduceAdd, Nat.reduceSub, Bool.false_eq_true, h3, List.map_map]
    rfl
theorem n_want (x : D) : f_want [.val (.bool true), .val x, .val (.int (-1))] = ret .none := by
  unfold f_want evF s_want
  simp -implicitDefEqProofs only [evSs, evS, evE, evAnd, evOr, evL, evA, evO, evC, evI, froz, thaw_nil, thaw, behind_nil, behind_int, behind_bool, behind_str, behind_none, behind_tup, behind_lst, isFeed, asB, asI, isNone_none, isNone_bool, isNone_int, isNone_str, isNone_tup, isNone_lst, mb_ret, mb_bad, mb_mb, ofO_ret, ofO_bad, List.getElem?_cons_zero, List.getElem?_cons_succ, List.cons_append, List.nil_append, List.replicate, List.length_cons, List.length_nil, List.set_cons_zero, List.set_cons_succ, bindT_nm, bindT_tp, setAll, setO, Option.map_some, Option.map_none, List.map_cons, List.map_nil, wipeR, ite_tt, ite_ft, if_true, if_false, Nat.reduceAdd, Nat.reduceSub, Bool.false_eq_true, Bool.not_true]
theorem n_want_program {p : Prog} (h : p.ok) : f_want_program [.val p.enc] = ret .none := by
  have h1 := n_is_program h
  unfold f_want_program evF s_want_program
  simp -implicitDefEqProofs only [evSs, evS, evE, evAnd, evOr, evL, evA, evO, evC, evI, froz, thaw_nil, thaw, behind_nil, behind_int, behind_bool, behind_str, behind_none, behind_tup, behind_lst, isFeed, asB, asI, isNone_none, isNone_bool, isNone_int, isNone_str, isNone_tup, isNone_lst, mb_ret, mb_bad, mb_mb, ofO_ret, ofO_bad, List.getElem?_cons_zero, List.getElem?_cons_succ, List.cons_append, List.nil_append, List.replicate, List.length_cons, List.length_nil, List.set_cons_zero, List.set_cons_succ, bindT_nm, bindT_tp, setAll, setO, Option.map_some, Option.map_none, List.map_cons, List.map_nil, wipeR, ite_tt, ite_ft, if_true, if_false, Nat.reduceAdd, Nat.reduceSub, Bool.false_eq_true, at_32_is_program_1, h1, at_32_want_2, n_want]
theorem n_names_of {p : Prog} (hb : p.bells.length ≤ 1000) : f_names_of [.val p.enc, .val (.int 5)] = ret (.list ((p.bells.map (·.name)).map .str)) := by
  have x5 : ixD p.enc (.int 5) = some (.tuple (p.bells.map Bell.enc)) := ix_t5 _ _ _ _ _ _ _
  unfold f_names_of evF s_names_of
  simp -implicitDefEqProofs only [evSs, evS, evE, evAnd, evOr, evL, evA, evO, evC, evI, froz, thaw_nil, thaw, behind_nil, behind_int, behind_bool, behind_str, behind_none, behind_tup, behind_lst, isFeed, asB, asI, isNone_none, isNone_bool, isNone_int, isNone_str, isNone_tup, isNone_lst, mb_ret, mb_bad, mb_mb, ofO_ret, ofO_bad, List.getElem?_cons_zero, List.getElem?_cons_succ, List.cons_append, List.nil_append, List.replicate, List.length_cons, List.length_nil, List.set_cons_zero, List.set_cons_succ, bindT_nm, bindT_tp, setAll, setO, Option.map_some, Option.map_none, List.map_cons, List.map_nil, wipeR, ite_tt, ite_ft, if_true, if_false, Nat.reduceAdd, Nat.reduceSub, Bool.false_eq_true, x5, itemsOf]
  rw [compL_of (g := fun b : Bell => .str b.name) fun b _ => by
    unfold Bell.enc
    simp -implicitDefEqProofs only [evSs, evS, evE, evAnd, evOr, evL, evA, evO, evC, evI, froz, thaw_nil, thaw, behind_nil, behind_int, behind_bool, behind_str, behind_none, behind_tup, behind_lst, isFeed, asB, asI, isNone_none, isNone_bool, isNone_int, isNone_str, isNone_tup, isNone_lst, mb_ret, mb_bad, mb_mb, ofO_ret, ofO_bad, List.getElem?_cons_zero, List.getElem?_cons_succ, List.cons_append, List.nil_append, List.replicate, List.length_cons, List.length_nil, List.set_cons_zero, List.set_cons_succ, bindT_nm, bindT_tp, setAll, setO, Option.map_some, Option.map_none, List.map_cons, List.map_nil, wipeR, ite_tt, ite_ft, if_true, if_false, Nat.reduceAdd, Nat.reduceSub, Bool.false_eq_true, ix_t0]]
  have h2 : lenOk ((p.bells.map fun b => PyData.str b.name)).length = true := by
    rw [List.length_map]
    exact lenOk_of (by omega)
  simp -implicitDefEqProofs only [evSs, evS, evE, evAnd, evOr, evL, evA, evO, evC, evI, froz, thaw_nil, thaw, behind_nil, behind_int, behind_bool, behind_str, behind_none, behind_tup, behind_lst, isFeed, asB, asI, isNone_none, isNone_bool, isNone_int, isNone_str, isNone_tup, isNone_lst, mb_ret, mb_bad, mb_mb, ofO_ret, ofO_bad, List.getElem?_cons_zero, List.getElem?_cons_succ, List.cons_append, List.nil_append, List.replicate, List.length_cons, List.length_nil, List.set_cons_zero, List.set_cons_succ, bindT_nm, bindT_tp, setAll, setO, Option.map_some, Option.map_none, List.map_cons, List.map_nil, wipeR, ite_tt, ite_ft, if_true, if_false, Nat.reduceAdd, Nat.reduceSub, Bool.false_eq_true, h2, List.map_map]
  rfl
theorem n_is_one_of {x : Str} {l : List Str} (h : x ∈ l) : f_is_one_of [.val (.str x), .val (.list (l.map .str))] = ret (.bool true) := by
  unfold f_is_one_of evF s_is_one_of
  simp -implicitDefEqProofs only [evSs, evS, evE, evAnd, evOr, evL, evA, evO, evC, evI, froz, thaw_nil, thaw, behind_nil, behind_int, behind_bool, behind_str, behind_none, behind_tup, behind_lst, isFeed, asB, asI, isNone_none, isNone_bool, isNone_int, isNone_str, isNone_tup, isNone_lst, mb_ret, mb_bad, mb_mb, ofO_ret, ofO_bad, List.getElem?_cons_zero, List.getElem?_cons_succ, List.cons_append, List.nil_append, List.replicate, List.length_cons, List.length_nil, List.set_cons_zero, List.set_cons_succ, bindT_nm, bindT_tp, setAll, setO, Option.map_some, Option.map_none, List.map_cons, List.map_nil, wipeR, ite_tt, ite_ft, if_true, if_false, Nat.reduceAdd, Nat.reduceSub, Bool.false_eq_true, tyD, cop_in, in_lst, decide_eq_true h]
end Qv.K5

namespace Qv.K5
open PySem Tx
def putIn (rows : List Row) (k : Nat) (r : Row) : List Row := (rows.map (Row.up k)).take k ++ [r] ++ (rows.map (Row.up k)).drop k
theorem n_with_row {p : Prog} {ring : Option Str} {k : Nat} {r : Row} (h : p.ok) (hr : p.has ring) (hb : p.bells.length ≤ 1000) (hk : k ≤ (p.list ring).length) (hl : (p.list ring).length ≤ 1000) (ho : r.ok p ((p.list ring).length + 1) ring.isNone) :
    f_with_row [.val p.enc, .val (.int k), .val r.enc, .val (ringD ring)] = ret (p.withList ring (putIn (p.list ring) k r)).enc := by
  have e1 := n_want_program h
  have e2 := n_list_of hr hb
  have e3 := n_is_number k
  have e4 := n_fits_row h.few.1 ho
  have e5 := n_with_list (p := p) (ring := ring) (rows := putIn (p.list ring) k r) hb
  have e7 := le_dec hk
  have e9 : (((p.list ring).length : Nat) : Int) + 1 = (((p.list ring).length + 1 : Nat) : Int) := by omega
  have f1 : lenOk ((p.list ring).map fun r => (r.up k).enc).length = true := by
    rw [List.length_map]
    exact lenOk_of (by omega)
  have f2 : decide ((0 : Int) ≤ (k : Int) ∧ (k : Int) ≤ 1000000) = true := decide_eq_true (by omega)
  have f3 : List.take ((k : Int).toNat) ((p.list ring).map fun r => (r.up k).enc) ++ [r.enc] ++ List.drop ((k : Int).toNat) ((p.list ring).map fun r => (r.up k).enc) = (putIn (p.list ring) k r).map Row.enc := by
    unfold putIn
    rw [Int.toNat_natCast, List.map_append, List.map_append, List.map_take, List.map_drop, List.map_map]
    rfl
  cases ring with
  | none =>
    have g2 : f_list_of [.val p.enc, .val (.none)] = ret (.tuple ((p.list none).map Row.enc)) := e2
    have g4 : f_fits_row [.val p.enc, .val r.enc, .val (.int ((p.list none).length + 1 : Nat)), .val (.bool true)] = ret (.bool true) := e4
    have g5 : f_with_list [.val p.enc, .val (.none), .val (.tuple ((putIn (p.list none) k r).map Row.enc))] = ret (p.withList none (putIn (p.list none) k r)).enc := e5
    unfold f_with_row evF s_with_row ringD
    simp -implicitDefEqProofs only [evSs, evS, evE, evAnd, evOr, evL, evA, evO, evC, evI, froz, thaw_nil, thaw, behind_nil, behind_int, behind_bool, behind_str, behind_none, behind_tup, behind_lst, isFeed, asB, asI, isNone_none, isNone_bool, isNone_int, isNone_str, isNone_tup, isNone_lst, mb_ret, mb_bad, mb_mb, ofO_ret, ofO_bad, List.getElem?_cons_zero, List.getElem?_cons_succ, List.cons_append, List.nil_append, List.replicate, List.length_cons, List.length_nil, List.set_cons_zero, List.set_cons_succ, bindT_nm, bindT_tp, setAll, setO, Option.map_some, Option.map_none, List.map_cons, List.map_nil, wipeR, ite_tt, ite_ft, if_true, if_false, Nat.reduceAdd, Nat.reduceSub, Bool.false_eq_true, at_34_want_program_1, e1, at_34_want_2, n_want, at_34_list_of_2, g2, at_34_is_number_1, e3, bi_len_t, List.length_map, cop_le_int, e7, bop_add_int, e9, at_34_fits_row_4, itemsOf, g4]
    rw [compL_of (g := fun r : Row => (r.up k).enc) fun r _ => by
      have hu := n_led_up r k
      simp -implicitDefEqProofs only [evSs, evS, evE, evAnd, evOr, evL, evA, evO, evC, evI, froz, thaw_nil, thaw, behind_nil, behind_int, behind_bool, behind_str, behind_none, behind_tup, behind_lst, isFeed, asB, asI, isNone_none, isNone_bool, isNone_int, isNone_str, isNone_tup, isNone_lst, mb_ret, mb_bad, mb_mb, ofO_ret, ofO_bad, List.getElem?_cons_zero, List.getElem?_cons_succ, List.cons_append, List.nil_append, List.replicate, List.length_cons, List.length_nil, List.set_cons_zero, List.set_cons_succ, bindT_nm, bindT_tp, setAll, setO, Option.map_some, Option.map_none, List.map_cons, List.map_nil, wipeR, ite_tt, ite_ft, if_true, if_false, Nat.reduceAdd, Nat.reduceSub, Bool.false_eq_true, at_34_led_on_3, hu]]
    simp -implicitDefEqProofs only [evSs, evS, evE, evAnd, evOr, evL, evA, evO, evC, evI, froz, thaw_nil, thaw, behind_nil, behind_int, behind_bool, behind_str, behind_none, behind_tup, behind_lst, isFeed, asB, asI, isNone_none, isNone_bool, isNone_int, isNone_str, isNone_tup, isNone_lst, mb_ret, mb_bad, mb_mb, ofO_ret, ofO_bad, List.getElem?_cons_zero, List.getElem?_cons_succ, List.cons_append, List.nil_append, List.replicate, List.length_cons, List.length_nil, List.set_cons_zero, List.set_cons_succ, bindT_nm, bindT_tp, setAll, setO, Option.map_some, Option.map_none, List.map_cons, List.map_nil, wipeR, ite_tt, ite_ft, if_true, if_false, Nat.reduceAdd, Nat.reduceSub, Bool.false_eq_true, f1, f2, f3, Bool.and_true, List.contains_cons, List.contains_nil, Nat.reduceBEq, Bool.or_false, bi_tup_l, at_34_with_list_3, g5]
  | some x =>
    have g2 : f_list_of [.val p.enc, .val (.str x)] = ret (.tuple ((p.list (some x)).map Row.enc)) := e2
    have g4 : f_fits_row [.val p.enc, .val r.enc, .val (.int ((p.list (some x)).length + 1 : Nat)), .val (.bool false)] = ret (.bool true) := e4
    have g5 : f_with_list [.val p.enc, .val (.str x), .val (.tuple ((putIn (p.list (some x)) k r).map Row.enc))] = ret (p.withList (some x) (putIn (p.list (some x)) k r)).enc := e5
    have hx : x ∈ p.bells.map (·.name) := by
      obtain ⟨b, e1, e2⟩ := hr
      exact List.mem_map.mpr ⟨b, e1, e2⟩
    have c1 := n_names_of hb
    have c2 := n_is_one_of hx
    unfold f_with_row evF s_with_row ringD
    simp -implicitDefEqProofs only [evSs, evS, evE, evAnd, evOr, evL, evA, evO, evC, evI, froz, thaw_nil, thaw, behind_nil, behind_int, behind_bool, behind_str, behind_none, behind_tup, behind_lst, isFeed, asB, asI, isNone_none, isNone_bool, isNone_int, isNone_str, isNone_tup, isNone_lst, mb_ret, mb_bad, mb_mb, ofO_ret, ofO_bad, List.getElem?_cons_zero, List.getElem?_cons_succ, List.cons_append, List.nil_append, List.replicate, List.length_cons, List.length_nil, List.set_cons_zero, List.set_cons_succ, bindT_nm, bindT_tp, setAll, setO, Option.map_some, Option.map_none, List.map_cons, List.map_nil, wipeR, ite_tt, ite_ft, if_true, if_false, Nat.reduceAdd, Nat.reduceSub, Bool.false_eq_true, at_34_want_program_1, e1, at_34_want_2, n_want, at_34_list_of_2, g2, at_34_is_number_1, e3, bi_len_t, List.length_map, cop_le_int, e7, bop_add_int, e9, at_34_fits_row_4, itemsOf, g4, at_34_is_one_of_2, at_34_names_of_2, c1, c2]
    rw [compL_of (g := fun r : Row => (r.up k).enc) fun r _ => by
      have hu := n_led_up r k
      simp -implicitDefEqProofs only [evSs, evS, evE, evAnd, evOr, evL, evA, evO, evC, evI, froz, thaw_nil, thaw, behind_nil, behind_int, behind_bool, behind_str, behind_none, behind_tup, behind_lst, isFeed, asB, asI, isNone_none, isNone_bool, isNone_int, isNone_str, isNone_tup, isNone_lst, mb_ret, mb_bad, mb_mb, ofO_ret, ofO_bad, List.getElem?_cons_zero, List.getElem?_cons_succ, List.cons_append, List.nil_append, List.replicate, List.length_cons, List.length_nil, List.set_cons_zero, List.set_cons_succ, bindT_nm, bindT_tp, setAll, setO, Option.map_some, Option.map_none, List.map_cons, List.map_nil, wipeR, ite_tt, ite_ft, if_true, if_false, Nat.reduceAdd, Nat.reduceSub, Bool.false_eq_true, at_34_led_on_3, hu]]
    simp -implicitDefEqProofs only [evSs, evS, evE, evAnd, evOr, evL, evA, evO, evC, evI, froz, thaw_nil, thaw, behind_nil, behind_int, behind_bool, behind_str, behind_none, behind_tup, behind_lst, isFeed, asB, asI, isNone_none, isNone_bool, isNone_int, isNone_str, isNone_tup, isNone_lst, mb_ret, mb_bad, mb_mb, ofO_ret, ofO_bad, List.getElem?_cons_zero, List.getElem?_cons_succ, List.cons_append, List.nil_append, List.replicate, List.length_cons, List.length_nil, List.set_cons_zero, List.set_cons_succ, bindT_nm, bindT_tp, setAll, setO, Option.map_some, Option.map_none, List.map_cons, List.map_nil, wipeR, ite_tt, ite_ft, if_true, if_false, Nat.reduceAdd, Nat.reduceSub, Bool.false_eq_true, f1, f2, f3, Bool.and_true, List.contains_cons, List.contains_nil, Nat.reduceBEq, Bool.or_false, bi_tup_l, at_34_with_list_3, g5]
end Qv.K5

namespace Qv.K5
open PySem Tx
def takeOut (rows : List Row) (k : Nat) : List Row := (rows.take k ++ rows.drop (k + 1)).map (Row.down (k + 1))
theorem n_without_row {p : Prog} {ring : Option Str} {k : Nat} (h : p.ok) (hr : p.has ring) (hb : p.bells.length ≤ 1000) (hk : k < (p.list ring).length) (hl : (p.list ring).length ≤ 1000) (ho : ring = none → 1 < (p.list ring).length) :
    f_without_row [.val p.enc, .val (.int k), .val (ringD ring)] = ret (p.withList ring (takeOut (p.list ring) k)).enc := by
  have e1 := n_want_program h
  have e2 := n_list_of hr hb
  have e3 := n_is_number k
  have e5 := n_with_list (p := p) (ring := ring) (rows := takeOut (p.list ring) k) hb
  have e7 : decide ((k : Int) < ((p.list ring).length : Nat)) = true := decide_eq_true (by omega)
  have s1 : slD (.tuple ((p.list ring).map Row.enc)) none (some (k : Int)) = some (.tuple (((p.list ring).take k).map Row.enc)) := by
    rw [sl_tup_to, List.map_take]
  have s2 : slD (.tuple ((p.list ring).map Row.enc)) (some ((k + 1 : Nat) : Int)) none = some (.tuple (((p.list ring).drop (k + 1)).map Row.enc)) := by
    rw [sl_tup_from, List.map_drop]
  have s3 : lenOk ((((p.list ring).take k).map Row.enc).length + (((p.list ring).drop (k + 1)).map Row.enc).length) = true := by
    rw [List.length_map, List.length_map, List.length_take, List.length_drop]
    exact lenOk_of (by omega)
  have s4 : ((p.list ring).take k).map Row.enc ++ ((p.list ring).drop (k + 1)).map Row.enc = ((p.list ring).take k ++ (p.list ring).drop (k + 1)).map Row.enc := by
    rw [List.map_append]
  have f1 : lenOk (((p.list ring).take k ++ (p.list ring).drop (k + 1)).map fun r => (r.down (k + 1)).enc).length = true := by
    rw [List.length_map, List.length_append, List.length_take, List.length_drop]
    exact lenOk_of (by omega)
  have f3 : (((p.list ring).take k ++ (p.list ring).drop (k + 1)).map fun r => (r.down (k + 1)).enc) = (takeOut (p.list ring) k).map Row.enc := by
    unfold takeOut
    rw [List.map_map]
    rfl
  generalize hR : p.list ring = R at *
  cases ring with
  | none =>
    have g2 : f_list_of [.val p.enc, .val .none] = ret (.tuple (R.map Row.enc)) := e2
    have g5 : f_with_list [.val p.enc, .val .none, .val (.tuple ((takeOut R k).map Row.enc))] = ret (p.withList none (takeOut R k)).enc := e5
    have e8 : decide ((1 : Int) < (R.length : Nat)) = true := decide_eq_true (by have := ho rfl; omega)
    unfold f_without_row evF s_without_row ringD
    simp -implicitDefEqProofs only [evSs, evS, evE, evAnd, evOr, evL, evA, evO, evC, evI, froz, thaw_nil, thaw, behind_nil, behind_int, behind_bool, behind_str, behind_none, behind_tup, behind_lst, isFeed, asB, asI, isNone_none, isNone_bool, isNone_int, isNone_str, isNone_tup, isNone_lst, mb_ret, mb_bad, mb_mb, ofO_ret, ofO_bad, List.getElem?_cons_zero, List.getElem?_cons_succ, List.cons_append, List.nil_append, List.replicate, List.length_cons, List.length_nil, List.set_cons_zero, List.set_cons_succ, bindT_nm, bindT_tp, setAll, setO, Option.map_some, Option.map_none, List.map_cons, List.map_nil, wipeR, ite_tt, ite_ft, if_true, if_false, Nat.reduceAdd, Nat.reduceSub, Bool.false_eq_true, at_35_want_program_1, e1, at_35_want_2, n_want, at_35_list_of_2, g2, at_35_is_number_1, e3, bi_len_t, List.length_map, cop_lt_int, cop_gt_int, e7, e8, bop_add_int, cast_succ, Bool.not_true, Bool.not_false, s1, s2, bop_add_t]
    rw [List.length_map, List.length_map] at s3
    simp -implicitDefEqProofs only [evSs, evS, evE, evAnd, evOr, evL, evA, evO, evC, evI, froz, thaw_nil, thaw, behind_nil, behind_int, behind_bool, behind_str, behind_none, behind_tup, behind_lst, isFeed, asB, asI, isNone_none, isNone_bool, isNone_int, isNone_str, isNone_tup, isNone_lst, mb_ret, mb_bad, mb_mb, ofO_ret, ofO_bad, List.getElem?_cons_zero, List.getElem?_cons_succ, List.cons_append, List.nil_append, List.replicate, List.length_cons, List.length_nil, List.set_cons_zero, List.set_cons_succ, bindT_nm, bindT_tp, setAll, setO, Option.map_some, Option.map_none, List.map_cons, List.map_nil, wipeR, ite_tt, ite_ft, if_true, if_false, Nat.reduceAdd, Nat.reduceSub, Bool.false_eq_true, s3, s4, itemsOf]
    rw [compL_of (g := fun r : Row => (r.down (k + 1)).enc) fun r _ => by
      have hu := n_led_down r (k + 1) (by omega)
      simp -implicitDefEqProofs only [evSs, evS, evE, evAnd, evOr, evL, evA, evO, evC, evI, froz, thaw_nil, thaw, behind_nil, behind_int, behind_bool, behind_str, behind_none, behind_tup, behind_lst, isFeed, asB, asI, isNone_none, isNone_bool, isNone_int, isNone_str, isNone_tup, isNone_lst, mb_ret, mb_bad, mb_mb, ofO_ret, ofO_bad, List.getElem?_cons_zero, List.getElem?_cons_succ, List.cons_append, List.nil_append, List.replicate, List.length_cons, List.length_nil, List.set_cons_zero, List.set_cons_succ, bindT_nm, bindT_tp, setAll, setO, Option.map_some, Option.map_none, List.map_cons, List.map_nil, wipeR, ite_tt, ite_ft, if_true, if_false, Nat.reduceAdd, Nat.reduceSub, Bool.false_eq_true, at_35_led_on_3, hu, Int.reduceNeg]]
    rw [f3] at f1 ⊢
    simp -implicitDefEqProofs only [evSs, evS, evE, evAnd, evOr, evL, evA, evO, evC, evI, froz, thaw_nil, thaw, behind_nil, behind_int, behind_bool, behind_str, behind_none, behind_tup, behind_lst, isFeed, asB, asI, isNone_none, isNone_bool, isNone_int, isNone_str, isNone_tup, isNone_lst, mb_ret, mb_bad, mb_mb, ofO_ret, ofO_bad, List.getElem?_cons_zero, List.getElem?_cons_succ, List.cons_append, List.nil_append, List.replicate, List.length_cons, List.length_nil, List.set_cons_zero, List.set_cons_succ, bindT_nm, bindT_tp, setAll, setO, Option.map_some, Option.map_none, List.map_cons, List.map_nil, wipeR, ite_tt, ite_ft, if_true, if_false, Nat.reduceAdd, Nat.reduceSub, Bool.false_eq_true, f1, bi_tup_l, at_35_with_list_3, g5]
  | some x =>
    have g2 : f_list_of [.val p.enc, .val (.str x)] = ret (.tuple (R.map Row.enc)) := e2
    have g5 : f_with_list [.val p.enc, .val (.str x), .val (.tuple ((takeOut R k).map Row.enc))] = ret (p.withList (some x) (takeOut R k)).enc := e5
    have hx : x ∈ p.bells.map (·.name) := by
      obtain ⟨b, e1, e2⟩ := hr
      exact List.mem_map.mpr ⟨b, e1, e2⟩
    have c1 := n_names_of hb
    have c2 := n_is_one_of hx
    unfold f_without_row evF s_without_row ringD
    simp -implicitDefEqProofs only [evSs, evS, evE, evAnd, evOr, evL, evA, evO, evC, evI, froz, thaw_nil, thaw, behind_nil, behind_int, behind_bool, behind_str, behind_none, behind_tup, behind_lst, isFeed, asB, asI, isNone_none, isNone_bool, isNone_int, isNone_str, isNone_tup, isNone_lst, mb_ret, mb_bad, mb_mb, ofO_ret, ofO_bad, List.getElem?_cons_zero, List.getElem?_cons_succ, List.cons_append, List.nil_append, List.replicate, List.length_cons, List.length_nil, List.set_cons_zero, List.set_cons_succ, bindT_nm, bindT_tp, setAll, setO, Option.map_some, Option.map_none, List.map_cons, List.map_nil, wipeR, ite_tt, ite_ft, if_true, if_false, Nat.reduceAdd, Nat.reduceSub, Bool.false_eq_true, at_35_want_program_1, e1, at_35_want_2, n_want, at_35_list_of_2, g2, at_35_is_number_1, e3, bi_len_t, List.length_map, cop_lt_int, cop_gt_int, e7, bop_add_int, cast_succ, Bool.not_true, Bool.not_false, s1, s2, bop_add_t, at_35_is_one_of_2, at_35_names_of_2, c1, c2]
    rw [List.length_map, List.length_map] at s3
    simp -implicitDefEqProofs only [evSs, evS, evE, evAnd, evOr, evL, evA, evO, evC, evI, froz, thaw_nil, thaw, behind_nil, behind_int, behind_bool, behind_str, behind_none, behind_tup, behind_lst, isFeed, asB, asI, isNone_none, isNone_bool, isNone_int, isNone_str, isNone_tup, isNone_lst, mb_ret, mb_bad, mb_mb, ofO_ret, ofO_bad, List.getElem?_cons_zero, List.getElem?_cons_succ, List.cons_append, List.nil_append, List.replicate, List.length_cons, List.length_nil, List.set_cons_zero, List.set_cons_succ, bindT_nm, bindT_tp, setAll, setO, Option.map_some, Option.map_none, List.map_cons, List.map_nil, wipeR, ite_tt, ite_ft, if_true, if_false, Nat.reduceAdd, Nat.reduceSub, Bool.false_eq_true, s3, s4, itemsOf]
    rw [compL_of (g := fun r : Row => (r.down (k + 1)).enc) fun r _ => by
      have hu := n_led_down r (k + 1) (by omega)
      simp -implicitDefEqProofs only [evSs, evS, evE, evAnd, evOr, evL, evA, evO, evC, evI, froz, thaw_nil, thaw, behind_nil, behind_int, behind_bool, behind_str, behind_none, behind_tup, behind_lst, isFeed, asB, asI, isNone_none, isNone_bool, isNone_int, isNone_str, isNone_tup, isNone_lst, mb_ret, mb_bad, mb_mb, ofO_ret, ofO_bad, List.getElem?_cons_zero, List.getElem?_cons_succ, List.cons_append, List.nil_append, List.replicate, List.length_cons, List.length_nil, List.set_cons_zero, List.set_cons_succ, bindT_nm, bindT_tp, setAll, setO, Option.map_some, Option.map_none, List.map_cons, List.map_nil, wipeR, ite_tt, ite_ft, if_true, if_false, Nat.reduceAdd, Nat.reduceSub, Bool.false_eq_true, at_35_led_on_3, hu, Int.reduceNeg]]
    rw [f3] at f1 ⊢
    simp -implicitDefEqProofs only [evSs, evS, evE, evAnd, evOr, evL, evA, evO, evC, evI, froz, thaw_nil, thaw, behind_nil, behind_int, behind_bool, behind_str, behind_none, behind_tup, behind_lst, isFeed, asB, asI, isNone_none, isNone_bool, isNone_int, isNone_str, isNone_tup, isNone_lst, mb_ret, mb_bad, mb_mb, ofO_ret, ofO_bad, List.getElem?_cons_zero, List.getElem?_cons_succ, List.cons_append, List.nil_append, List.replicate, List.length_cons, List.length_nil, List.set_cons_zero, List.set_cons_succ, bindT_nm, bindT_tp, setAll, setO, Option.map_some, Option.map_none, List.map_cons, List.map_nil, wipeR, ite_tt, ite_ft, if_true, if_false, Nat.reduceAdd, Nat.reduceSub, Bool.false_eq_true, f1, bi_tup_l, at_35_with_list_3, g5]
end Qv.K5

namespace Qv.K5
open PySem Tx
theorem line_put {r : Row} {l m : Nat} (h : r.line = some l) : (r.put m).line = some m := by
  cases r <;> first | rfl | cases h
theorem put_put {r : Row} {l m : Nat} (h : r.line = some l) : (r.put m).put l = r := by
  cases r <;> cases h <;> rfl
theorem down_up (r : Row) (k : Nat) : (r.up k).down (k + 1) = r := by
  unfold Row.up
  cases hl : r.line with
  | none =>
    unfold Row.down
    simp only [hl]
  | some l =>
    by_cases hk : l < k
    · simp only [if_pos hk]
      unfold Row.down
      simp only [hl]
      rw [if_pos (by omega)]
    · simp only [if_neg hk]
      unfold Row.down
      simp only [line_put hl]
      rw [if_neg (by omega)]
      exact put_put hl
theorem out_in (rows : List Row) (k : Nat) (r : Row) (hk : k ≤ rows.length) : takeOut (putIn rows k r) k = rows := by
  unfold takeOut putIn
  have hl : ((rows.map (Row.up k)).take k).length = k := by
    rw [List.length_take, List.length_map]
    omega
  have h1 : (((rows.map (Row.up k)).take k ++ [r] ++ (rows.map (Row.up k)).drop k)).take k = (rows.map (Row.up k)).take k := by
    rw [List.append_assoc, List.take_append_of_le_length (by omega), List.take_of_length_le (by omega)]
  have h2 : (((rows.map (Row.up k)).take k ++ [r] ++ (rows.map (Row.up k)).drop k)).drop (k + 1) = (rows.map (Row.up k)).drop k := by
    have hl2 : ((rows.map (Row.up k)).take k ++ [r]).length = k + 1 := by
      rw [List.length_append, hl]
      rfl
    rw [List.drop_append_of_le_length (by omega), List.drop_of_length_le (by omega), List.nil_append]
  rw [h1, h2, List.take_append_drop, List.map_map]
  have h3 : (Row.down (k + 1) ∘ Row.up k) = id := by
    funext r
    exact down_up r k
  rw [h3, List.map_id]
end Qv.K5

namespace Qv.K5
open PySem Tx
theorem put_same {p : Prog} {r : Row} {l : Nat} : ((r.put l).form ↔ r.form) ∧ ((r.put l).fits p ↔ r.fits p) ∧ (r.put l).own = r.own := by
  cases r <;> exact ⟨Iff.rfl, Iff.rfl, rfl⟩
theorem up_ok {p : Prog} {r : Row} {m k : Nat} {own : Bool} (h : r.ok p m own) : (r.up k).ok p (m + 1) own := by
  unfold Row.up
  cases hl : r.line with
  | none => exact ⟨h.form, h.fits, (fun l e => by rw [hl] at e; cases e), h.own_⟩
  | some l =>
    have hm := h.upto l hl
    by_cases hk : l < k
    · simp only [if_pos hk]
      exact ⟨h.form, h.fits, fun j e => by rw [hl] at e; cases e; omega, h.own_⟩
    · simp only [if_neg hk]
      refine ⟨put_same (p := p).1.mpr h.form, put_same.2.1.mpr h.fits, fun j e => ?_, fun e => h.own_ (by rw [put_same (p := p).2.2] at e; exact e)⟩
      rw [line_put hl] at e
      cases e
      omega
theorem down_ok {p : Prog} {r : Row} {m k : Nat} {own : Bool} (h : r.ok p m own) (hk : k < m) : (r.down (k + 1)).ok p (m - 1) own := by
  unfold Row.down
  cases hl : r.line with
  | none => exact ⟨h.form, h.fits, (fun l e => by rw [hl] at e; cases e), h.own_⟩
  | some l =>
    have hm := h.upto l hl
    by_cases hk2 : l < k + 1
    · simp only [if_pos hk2]
      exact ⟨h.form, h.fits, fun j e => by rw [hl] at e; cases e; omega, h.own_⟩
    · simp only [if_neg hk2]
      refine ⟨put_same (p := p).1.mpr h.form, put_same.2.1.mpr h.fits, fun j e => ?_, fun e => h.own_ (by rw [put_same (p := p).2.2] at e; exact e)⟩
      rw [line_put hl] at e
      cases e
      omega
theorem fits_with {p : Prog} {ring : Option Str} {rows : List Row} {r : Row} : r.fits (p.withList ring rows) ↔ r.fits p := by
  cases ring <;> cases r <;> exact Iff.rfl
theorem ok_with {p : Prog} {ring : Option Str} {rows : List Row} {r : Row} {m : Nat} {own : Bool} (h : r.ok p m own) : r.ok (p.withList ring rows) m own := ⟨h.form, fits_with.mpr h.fits, h.upto, h.own_⟩
/-- the program with another list at a ring is by form -/
theorem with_ok {p : Prog} {ring : Option Str} {rows : List Row} (h : p.ok) (hn : ring = none → rows ≠ []) (hl : rows.length ≤ 1000) (hr : ∀ r ∈ rows, r.ok p rows.length ring.isNone) : (p.withList ring rows).ok := by
  cases ring with
  | none => exact ⟨h.stNe, h.st, h.stA, h.ms, h.msA, h.fl, h.flA, h.to, h.toA, hn rfl, fun r hr' => ok_with (ring := none) (hr r hr'), fun b hb => ⟨(h.bells b hb).1, (h.bells b hb).2.1, fun r hr' => ok_with (ring := none) ((h.bells b hb).2.2 r hr')⟩, h.bellsA, h.few⟩
  | some x =>
    refine ⟨h.stNe, h.st, h.stA, h.ms, h.msA, h.fl, h.flA, h.to, h.toA, h.rowsNe, fun r hr' => ok_with (ring := some x) (h.rows r hr'), fun b hb => ?_, fun i a c ha hc => ?_, h.few⟩
    · obtain ⟨b0, hb0, rfl⟩ := List.mem_map.mp (show b ∈ p.bells.map (Bell.swap x rows) from hb)
      obtain ⟨k1, k2, k3⟩ := h.bells b0 hb0
      unfold Bell.swap
      by_cases hx : b0.name = x
      · rw [if_pos hx]
        exact ⟨k1, hl, fun r hr' => ok_with (ring := some x) (hr r hr')⟩
      · rw [if_neg hx]
        exact ⟨k1, k2, fun r hr' => ok_with (ring := some x) (k3 r hr')⟩
    · have nm : ∀ b : Bell, (Bell.swap x rows b).name = b.name := fun b => by
        unfold Bell.swap
        by_cases hx : b.name = x
        · rw [if_pos hx]
        · rw [if_neg hx]
      have ha' : (p.bells.map (Bell.swap x rows))[i]? = some a := ha
      have hc' : (p.bells.map (Bell.swap x rows))[i + 1]? = some c := hc
      rw [List.getElem?_map] at ha' hc'
      obtain ⟨a0, a1, rfl⟩ := Option.map_eq_some_iff.mp ha'
      obtain ⟨c0, c1, rfl⟩ := Option.map_eq_some_iff.mp hc'
      rw [nm, nm]
      exact h.bellsA i a0 c0 a1 c1
theorem putIn_len {rows : List Row} {k : Nat} {r : Row} (hk : k ≤ rows.length) : (putIn rows k r).length = rows.length + 1 := by
  unfold putIn
  rw [List.length_append, List.length_append, List.length_take, List.length_drop, List.length_map, List.length_singleton]
  omega
theorem takeOut_len {rows : List Row} {k : Nat} (hk : k < rows.length) : (takeOut rows k).length = rows.length - 1 := by
  unfold takeOut
  rw [List.length_map, List.length_append, List.length_take, List.length_drop]
  omega
theorem putIn_ok {p : Prog} {rows : List Row} {k : Nat} {r : Row} {own : Bool} (hk : k ≤ rows.length) (h : ∀ r ∈ rows, r.ok p rows.length own) (hr : r.ok p (rows.length + 1) own) : ∀ q ∈ putIn rows k r, q.ok p (putIn rows k r).length own := by
  intro q hq
  rw [putIn_len hk]
  unfold putIn at hq
  have up : ∀ q ∈ rows.map (Row.up k), q.ok p (rows.length + 1) own := fun q hq => by
    obtain ⟨r0, h0, rfl⟩ := List.mem_map.mp hq
    exact up_ok (h r0 h0)
  rcases List.mem_append.mp hq with hq | hq
  · rcases List.mem_append.mp hq with hq | hq
    · exact up q (List.mem_of_mem_take hq)
    · rw [List.mem_singleton.mp hq]
      exact hr
  · exact up q (List.mem_of_mem_drop hq)
theorem takeOut_ok {p : Prog} {rows : List Row} {k : Nat} {own : Bool} (hk : k < rows.length) (h : ∀ r ∈ rows, r.ok p rows.length own) : ∀ q ∈ takeOut rows k, q.ok p (takeOut rows k).length own := by
  intro q hq
  rw [takeOut_len hk]
  unfold takeOut at hq
  obtain ⟨r0, h0, rfl⟩ := List.mem_map.mp hq
  refine down_ok (h r0 ?_) hk
  rcases List.mem_append.mp h0 with h0 | h0
  · exact List.mem_of_mem_take h0
  · exact List.mem_of_mem_drop h0
end Qv.K5

namespace Qv.K5
open PySem Tx
/-! ### the law's own side -/
theorem l_lined (r : Row) : f__law_lined [.val r.enc] = ret (.bool r.line.isSome) := by
  cases r <;>
  · unfold f__law_lined evF s__law_lined Row.enc
    simp -implicitDefEqProofs only [evSs, evS, evE, evAnd, evOr, evL, evA, evO, evC, evI, froz, thaw_nil, thaw, behind_nil, behind_int, behind_bool, behind_str, behind_none, behind_tup, behind_lst, isFeed, asB, asI, isNone_none, isNone_bool, isNone_int, isNone_str, isNone_tup, isNone_lst, mb_ret, mb_bad, mb_mb, ofO_ret, ofO_bad, List.getElem?_cons_zero, List.getElem?_cons_succ, List.cons_append, List.nil_append, List.replicate, List.length_cons, List.length_nil, List.set_cons_zero, List.set_cons_succ, bindT_nm, bindT_tp, setAll, setO, Option.map_some, Option.map_none, List.map_cons, List.map_nil, wipeR, ite_tt, ite_ft, if_true, if_false, Nat.reduceAdd, Nat.reduceSub, Bool.false_eq_true, ix_t0, cop_in, inlit4, ofS_inj, String.reduceEq, decide_false, decide_true, Bool.or_true, Bool.true_or, Bool.or_false, Bool.false_or, Row.line, Option.isSome]
theorem l_rows_of {p : Prog} {ring : Option Str} (h : p.has ring) (hb : p.bells.length ≤ 1000) : f__law_rows_of [.val p.enc, .val (ringD ring)] = ret (encRows (p.list ring)) := by
  have x4 : ixD p.enc (.int 4) = some (encRows p.rows) := ix_t4 _ _ _ _ _ _
  have x5 : ixD p.enc (.int 5) = some (.tuple (p.bells.map Bell.enc)) := ix_t5 _ _ _ _ _ _ _
  cases ring with
  | none =>
    unfold f__law_rows_of evF s__law_rows_of ringD Prog.list
    simp -implicitDefEqProofs only [evSs, evS, evE, evAnd, evOr, evL, evA, evO, evC, evI, froz, thaw_nil, thaw, behind_nil, behind_int, behind_bool, behind_str, behind_none, behind_tup, behind_lst, isFeed, asB, asI, isNone_none, isNone_bool, isNone_int, isNone_str, isNone_tup, isNone_lst, mb_ret, mb_bad, mb_mb, ofO_ret, ofO_bad, List.getElem?_cons_zero, List.getElem?_cons_succ, List.cons_append, List.nil_append, List.replicate, List.length_cons, List.length_nil, List.set_cons_zero, List.set_cons_succ, bindT_nm, bindT_tp, setAll, setO, Option.map_some, Option.map_none, List.map_cons, List.map_nil, wipeR, ite_tt, ite_ft, if_true, if_false, Nat.reduceAdd, Nat.reduceSub, Bool.false_eq_true, x4]
  | some x =>
    unfold f__law_rows_of evF s__law_rows_of ringD Prog.list
    simp -implicitDefEqProofs only [evSs, evS, evE, evAnd, evOr, evL, evA, evO, evC, evI, froz, thaw_nil, thaw, behind_nil, behind_int, behind_bool, behind_str, behind_none, behind_tup, behind_lst, isFeed, asB, asI, isNone_none, isNone_bool, isNone_int, isNone_str, isNone_tup, isNone_lst, mb_ret, mb_bad, mb_mb, ofO_ret, ofO_bad, List.getElem?_cons_zero, List.getElem?_cons_succ, List.cons_append, List.nil_append, List.replicate, List.length_cons, List.length_nil, List.set_cons_zero, List.set_cons_succ, bindT_nm, bindT_tp, setAll, setO, Option.map_some, Option.map_none, List.map_cons, List.map_nil, wipeR, ite_tt, ite_ft, if_true, if_false, Nat.reduceAdd, Nat.reduceSub, Bool.false_eq_true, x5, itemsOf]
    rw [compL_ofF (p := fun b : Bell => decide (b.name = x)) (g := fun b => encRows b.rows) fun b _ => by
      unfold Bell.enc
      simp -implicitDefEqProofs only [evSs, evS, evE, evAnd, evOr, evL, evA, evO, evC, evI, froz, thaw_nil, thaw, behind_nil, behind_int, behind_bool, behind_str, behind_none, behind_tup, behind_lst, isFeed, asB, asI, isNone_none, isNone_bool, isNone_int, isNone_str, isNone_tup, isNone_lst, mb_ret, mb_bad, mb_mb, ofO_ret, ofO_bad, List.getElem?_cons_zero, List.getElem?_cons_succ, List.cons_append, List.nil_append, List.replicate, List.length_cons, List.length_nil, List.set_cons_zero, List.set_cons_succ, bindT_nm, bindT_tp, setAll, setO, Option.map_some, Option.map_none, List.map_cons, List.map_nil, wipeR, ite_tt, ite_ft, if_true, if_false, Nat.reduceAdd, Nat.reduceSub, Bool.false_eq_true, ix_t0, ix_t3, cop_eq_str]
      cases decide (b.name = x) <;> rfl]
    obtain ⟨b, hb1, hb2⟩ := h
    have hm : b ∈ p.bells.filter fun b => decide (b.name = x) := List.mem_filter.mpr ⟨hb1, decide_eq_true hb2⟩
    have hl := List.length_filter_le (fun b : Bell => decide (b.name = x)) p.bells
    generalize p.bells.filter (fun b => decide (b.name = x)) = f at hm hl
    have h2 : lenOk ((f.map fun b => encRows b.rows)).length = true := by
      rw [List.length_map]
      exact lenOk_of (by omega)
    simp -implicitDefEqProofs only [evSs, evS, evE, evAnd, evOr, evL, evA, evO, evC, evI, froz, thaw_nil, thaw, behind_nil, behind_int, behind_bool, behind_str, behind_none, behind_tup, behind_lst, isFeed, asB, asI, isNone_none, isNone_bool, isNone_int, isNone_str, isNone_tup, isNone_lst, mb_ret, mb_bad, mb_mb, ofO_ret, ofO_bad, List.getElem?_cons_zero, List.getElem?_cons_succ, List.cons_append, List.nil_append, List.replicate, List.length_cons, List.length_nil, List.set_cons_zero, List.set_cons_succ, bindT_nm, bindT_tp, setAll, setO, Option.map_some, Option.map_none, List.map_cons, List.map_nil, wipeR, ite_tt, ite_ft, if_true, if_false, Nat.reduceAdd, Nat.reduceSub, Bool.false_eq_true, h2]
    cases f with
    | nil => cases hm
    | cons y r =>
      simp -implicitDefEqProofs only [evSs, evS, evE, evAnd, evOr, evL, evA, evO, evC, evI, froz, thaw_nil, thaw, behind_nil, behind_int, behind_bool, behind_str, behind_none, behind_tup, behind_lst, isFeed, asB, asI, isNone_none, isNone_bool, isNone_int, isNone_str, isNone_tup, isNone_lst, mb_ret, mb_bad, mb_mb, ofO_ret, ofO_bad, List.getElem?_cons_zero, List.getElem?_cons_succ, List.cons_append, List.nil_append, List.replicate, List.length_cons, List.length_nil, List.set_cons_zero, List.set_cons_succ, bindT_nm, bindT_tp, setAll, setO, Option.map_some, Option.map_none, List.map_cons, List.map_nil, wipeR, ite_tt, ite_ft, if_true, if_false, Nat.reduceAdd, Nat.reduceSub, Bool.false_eq_true, ix_l0]
      rfl
theorem l_put {p : Prog} {ring : Option Str} {rows : List Row} (hb : p.bells.length ≤ 1000) : f__law_put [.val p.enc, .val (ringD ring), .val (.list (rows.map Row.enc))] = ret (p.withList ring rows).enc := by
  cases ring with
  | none =>
    unfold f__law_put evF s__law_put ringD Prog.withList Prog.enc encRows
    simp -implicitDefEqProofs only [evSs, evS, evE, evAnd, evOr, evL, evA, evO, evC, evI, froz, thaw_nil, thaw, behind_nil, behind_int, behind_bool, behind_str, behind_none, behind_tup, behind_lst, isFeed, asB, asI, isNone_none, isNone_bool, isNone_int, isNone_str, isNone_tup, isNone_lst, mb_ret, mb_bad, mb_mb, ofO_ret, ofO_bad, List.getElem?_cons_zero, List.getElem?_cons_succ, List.cons_append, List.nil_append, List.replicate, List.length_cons, List.length_nil, List.set_cons_zero, List.set_cons_succ, bindT_nm, bindT_tp, setAll, setO, Option.map_some, Option.map_none, List.map_cons, List.map_nil, wipeR, ite_tt, ite_ft, if_true, if_false, Nat.reduceAdd, Nat.reduceSub, Bool.false_eq_true, sl4, ix_t5, bi_tup_l, bop_add_t, lenOk, Nat.reduceLeDiff, decide_true]
  | some x =>
    unfold f__law_put evF s__law_put ringD Prog.withList Prog.enc
    simp -implicitDefEqProofs only [evSs, evS, evE, evAnd, evOr, evL, evA, evO, evC, evI, froz, thaw_nil, thaw, behind_nil, behind_int, behind_bool, behind_str, behind_none, behind_tup, behind_lst, isFeed, asB, asI, isNone_none, isNone_bool, isNone_int, isNone_str, isNone_tup, isNone_lst, mb_ret, mb_bad, mb_mb, ofO_ret, ofO_bad, List.getElem?_cons_zero, List.getElem?_cons_succ, List.cons_append, List.nil_append, List.replicate, List.length_cons, List.length_nil, List.set_cons_zero, List.set_cons_succ, bindT_nm, bindT_tp, setAll, setO, Option.map_some, Option.map_none, List.map_cons, List.map_nil, wipeR, ite_tt, ite_ft, if_true, if_false, Nat.reduceAdd, Nat.reduceSub, Bool.false_eq_true, ix_t5, itemsOf]
    rw [compL_of (g := fun b : Bell => (Bell.swap x rows b).enc) fun b _ => by
      unfold Bell.enc Bell.swap encRows
      by_cases hx : b.name = x
      · simp -implicitDefEqProofs only [evSs, evS, evE, evAnd, evOr, evL, evA, evO, evC, evI, froz, thaw_nil, thaw, behind_nil, behind_int, behind_bool, behind_str, behind_none, behind_tup, behind_lst, isFeed, asB, asI, isNone_none, isNone_bool, isNone_int, isNone_str, isNone_tup, isNone_lst, mb_ret, mb_bad, mb_mb, ofO_ret, ofO_bad, List.getElem?_cons_zero, List.getElem?_cons_succ, List.cons_append, List.nil_append, List.replicate, List.length_cons, List.length_nil, List.set_cons_zero, List.set_cons_succ, bindT_nm, bindT_tp, setAll, setO, Option.map_some, Option.map_none, List.map_cons, List.map_nil, wipeR, ite_tt, ite_ft, if_true, if_false, Nat.reduceAdd, Nat.reduceSub, Bool.false_eq_true, ix_t0, cop_eq_str, decide_eq_true hx, sl3of4, bi_tup_l, bop_add_t, lenOk, Nat.reduceLeDiff, decide_true, if_pos hx]
      · simp -implicitDefEqProofs only [evSs, evS, evE, evAnd, evOr, evL, evA, evO, evC, evI, froz, thaw_nil, thaw, behind_nil, behind_int, behind_bool, behind_str, behind_none, behind_tup, behind_lst, isFeed, asB, asI, isNone_none, isNone_bool, isNone_int, isNone_str, isNone_tup, isNone_lst, mb_ret, mb_bad, mb_mb, ofO_ret, ofO_bad, List.getElem?_cons_zero, List.getElem?_cons_succ, List.cons_append, List.nil_append, List.replicate, List.length_cons, List.length_nil, List.set_cons_zero, List.set_cons_succ, bindT_nm, bindT_tp, setAll, setO, Option.map_some, Option.map_none, List.map_cons, List.map_nil, wipeR, ite_tt, ite_ft, if_true, if_false, Nat.reduceAdd, Nat.reduceSub, Bool.false_eq_true, ix_t0, ix_t3, cop_eq_str, decide_eq_false hx, sl3of4, bi_tup_l, bop_add_t, lenOk, Nat.reduceLeDiff, decide_true, if_neg hx]]
    have h2 : lenOk ((p.bells.map fun b => (Bell.swap x rows b).enc)).length = true := by
      rw [List.length_map]
      exact lenOk_of (by omega)
    simp -implicitDefEqProofs only [evSs, evS, evE, evAnd, evOr, evL, evA, evO, evC, evI, froz, thaw_nil, thaw, behind_nil, behind_int, behind_bool, behind_str, behind_none, behind_tup, behind_lst, isFeed, asB, asI, isNone_none, isNone_bool, isNone_int, isNone_str, isNone_tup, isNone_lst, mb_ret, mb_bad, mb_mb, ofO_ret, ofO_bad, List.getElem?_cons_zero, List.getElem?_cons_succ, List.cons_append, List.nil_append, List.replicate, List.length_cons, List.length_nil, List.set_cons_zero, List.set_cons_succ, bindT_nm, bindT_tp, setAll, setO, Option.map_some, Option.map_none, List.map_cons, List.map_nil, wipeR, ite_tt, ite_ft, if_true, if_false, Nat.reduceAdd, Nat.reduceSub, Bool.false_eq_true, h2, sl5, bi_tup_l, bop_add_t]
    have h3 : lenOk 6 = true := rfl
    simp -implicitDefEqProofs only [evSs, evS, evE, evAnd, evOr, evL, evA, evO, evC, evI, froz, thaw_nil, thaw, behind_nil, behind_int, behind_bool, behind_str, behind_none, behind_tup, behind_lst, isFeed, asB, asI, isNone_none, isNone_bool, isNone_int, isNone_str, isNone_tup, isNone_lst, mb_ret, mb_bad, mb_mb, ofO_ret, ofO_bad, List.getElem?_cons_zero, List.getElem?_cons_succ, List.cons_append, List.nil_append, List.replicate, List.length_cons, List.length_nil, List.set_cons_zero, List.set_cons_succ, bindT_nm, bindT_tp, setAll, setO, Option.map_some, Option.map_none, List.map_cons, List.map_nil, wipeR, ite_tt, ite_ft, if_true, if_false, Nat.reduceAdd, Nat.reduceSub, Bool.false_eq_true, h3, List.map_map]
    rfl
end Qv.K5

namespace Qv.K5
open PySem Tx
def Row.words : Row → List D
  | .call m => [.str "call", .str m]
  | .set m p => [.str "set", .str m, .str p]
  | .gone m _ => [.str "gone", .str m]
  | .told a _ => [.str "told", .str a]
  | .rais f => [.str "raise", .str f]
  | .lower f => [.str "lower", .str f]
  | .ask f _ => [.str "ask", .str f]
  | .go _ => [.str "go"]
  | .use t => [.str "use", .str t]
  | .wait f => [.str "wait", .str f]
  | .fin => [.str "end"]
def goalD (n : Nat) : Option Nat → D
  | none => .none
  | some l => if l < n then .int l else .str "behind"
def tagE (n i : Nat) (r : Row) : D := .tuple [.tuple r.words, .int i, goalD n r.line]
theorem rng_at {n l : Nat} (h : l ≤ n) : ixD (.list (rngL 0 n ++ [.str "behind"])) (.int l) = some (goalD n (some l)) := by
  refine ix_l ?_
  show _ = some (if l < n then PyData.int l else .str "behind")
  by_cases hl : l < n
  · rw [if_pos hl, List.getElem?_append_left (by rw [rngL_len]; exact hl)]
    obtain ⟨d, hd⟩ : ∃ d, (rngL 0 n)[l]? = some d := ⟨_, List.getElem?_eq_getElem (by rw [rngL_len]; exact hl)⟩
    rw [hd, (rngL_get n 0 l d hd).1, Int.zero_add]
  · have e : l = n := by omega
    rw [if_neg hl, List.getElem?_append_right (by rw [rngL_len]; omega), rngL_len, e, Nat.sub_self]
    rfl
theorem rng_i {n i : Nat} (h : i < n) : ixD (.list (rngL 0 n)) (.int i) = some (.int i) := by
  refine ix_l ?_
  obtain ⟨d, hd⟩ : ∃ d, (rngL 0 n)[i]? = some d := ⟨_, List.getElem?_eq_getElem (by rw [rngL_len]; exact h)⟩
  rw [hd, (rngL_get n 0 i d hd).1, Int.zero_add]
theorem enc_last {r : Row} {l : Nat} (h : r.line = some l) : ixD r.enc (.int (-1)) = some (.int l) ∧ slD r.enc none (some (-1)) = some (.tuple r.words) := by
  cases r <;> cases h <;> exact ⟨rfl, rfl⟩
theorem enc_words {r : Row} (h : r.line = none) : r.enc = .tuple r.words := by
  cases r <;> first | rfl | cases h
theorem l_tag_step {n i : Nat} {r : Row} {R : D} {acc : List D} {c : C} (hi : i < n) (hl : ∀ l, r.line = some l → l ≤ n) (hn : n ≤ 1000) (ha : acc.length ≤ 1000) :
    evSs G_3 fuel s__law_tagged_b1 [.val R, .val (.list (rngL 0 n)), .own acc, .val (.int i), .val r.enc, c] = ret (.nx [.val R, .val (.list (rngL 0 n)), .own (acc ++ [tagE n i r]), .val (.int i), .val r.enc, .val (goalD n r.line)]) := by
  have h1 := l_lined r
  have h2 := rng_i hi
  have h3 : lenOk ((rngL 0 n).length + 1) = true := by
    rw [rngL_len]
    exact lenOk_of (by omega)
  have h4 : lenOk acc.length = true := lenOk_of (by omega)
  unfold s__law_tagged_b1 tagE
  cases hr : r.line with
  | none =>
    rw [hr] at h1
    have h5 := enc_words hr
    rw [h5] at h1 ⊢
    simp -implicitDefEqProofs only [evSs, evS, evE, evAnd, evOr, evL, evA, evO, evC, evI, froz, thaw_nil, thaw, behind_nil, behind_int, behind_bool, behind_str, behind_none, behind_tup, behind_lst, isFeed, asB, asI, isNone_none, isNone_bool, isNone_int, isNone_str, isNone_tup, isNone_lst, mb_ret, mb_bad, mb_mb, ofO_ret, ofO_bad, List.getElem?_cons_zero, List.getElem?_cons_succ, List.cons_append, List.nil_append, List.replicate, List.length_cons, List.length_nil, List.set_cons_zero, List.set_cons_succ, bindT_nm, bindT_tp, setAll, setO, Option.map_some, Option.map_none, List.map_cons, List.map_nil, wipeR, ite_tt, ite_ft, if_true, if_false, Nat.reduceAdd, Nat.reduceSub, Bool.false_eq_true, at_3__law_lined_1, h1, Option.isSome, h2, List.contains_nil, h4, goalD]
  | some l =>
    rw [hr] at h1
    obtain ⟨h5, h6⟩ := enc_last hr
    have h7 := rng_at (hl l hr)
    simp -implicitDefEqProofs only [evSs, evS, evE, evAnd, evOr, evL, evA, evO, evC, evI, froz, thaw_nil, thaw, behind_nil, behind_int, behind_bool, behind_str, behind_none, behind_tup, behind_lst, isFeed, asB, asI, isNone_none, isNone_bool, isNone_int, isNone_str, isNone_tup, isNone_lst, mb_ret, mb_bad, mb_mb, ofO_ret, ofO_bad, List.getElem?_cons_zero, List.getElem?_cons_succ, List.cons_append, List.nil_append, List.replicate, List.length_cons, List.length_nil, List.set_cons_zero, List.set_cons_succ, bindT_nm, bindT_tp, setAll, setO, Option.map_some, Option.map_none, List.map_cons, List.map_nil, wipeR, ite_tt, ite_ft, if_true, if_false, Nat.reduceAdd, Nat.reduceSub, Bool.false_eq_true, at_3__law_lined_1, h1, Option.isSome, Int.reduceNeg, h5, h6, bop_add_l, h3, h7, h2, List.contains_nil, h4]
def tagsFrom (n : Nat) : Nat → List Row → List D
  | _, [] => []
  | i, r :: rest => tagE n i r :: tagsFrom n (i + 1) rest
theorem l_tag_loop {n : Nat} {R : D} (hn : n ≤ 1000) : ∀ (rest : List Row) (i : Nat) (acc : List D) (a b c : C), i + rest.length = n → acc.length = i → (∀ r ∈ rest, ∀ l, r.line = some l → l ≤ n) →
    ∃ a' b' c', forL (fun x ρ' => mb (ofO (bindT (.tp [3, 4]) x ρ')) fun ρ2 => evSs G_3 fuel s__law_tagged_b1 ρ2) (enumFrom (i : Int) (rest.map Row.enc)) [.val R, .val (.list (rngL 0 n)), .own acc, a, b, c] =
      ret (.nx [.val R, .val (.list (rngL 0 n)), .own (acc ++ tagsFrom n i rest), a', b', c'])
  | [], i, acc, a, b, c, _, _, _ => ⟨a, b, c, by rw [tagsFrom, List.append_nil]; rfl⟩
  | r :: rest, i, acc, a, b, c, h1, h2, h3 => by
    rw [List.length_cons] at h1
    have st := l_tag_step (n := n) (i := i) (r := r) (R := R) (acc := acc) (c := c) (by omega) (h3 r List.mem_cons_self) hn (by omega)
    obtain ⟨a', b', c', e⟩ := l_tag_loop hn rest (i + 1) (acc ++ [tagE n i r]) (.val (.int i)) (.val r.enc) (.val (goalD n r.line)) (by omega) (by rw [List.length_append, h2]; rfl) fun q hq => h3 q (List.mem_cons_of_mem _ hq)
    refine ⟨a', b', c', ?_⟩
    rw [List.map_cons, enumFrom, forL]
    simp -implicitDefEqProofs only [evSs, evS, evE, evAnd, evOr, evL, evA, evO, evC, evI, froz, thaw_nil, thaw, behind_nil, behind_int, behind_bool, behind_str, behind_none, behind_tup, behind_lst, isFeed, asB, asI, isNone_none, isNone_bool, isNone_int, isNone_str, isNone_tup, isNone_lst, mb_ret, mb_bad, mb_mb, ofO_ret, ofO_bad, List.getElem?_cons_zero, List.getElem?_cons_succ, List.cons_append, List.nil_append, List.replicate, List.length_cons, List.length_nil, List.set_cons_zero, List.set_cons_succ, bindT_nm, bindT_tp, setAll, setO, Option.map_some, Option.map_none, List.map_cons, List.map_nil, wipeR, ite_tt, ite_ft, if_true, if_false, Nat.reduceAdd, Nat.reduceSub, Bool.false_eq_true, st]
    rw [cast_succ, e, tagsFrom, List.append_assoc]
    rfl
theorem l_tagged {rows : List Row} (hn : rows.length ≤ 1000) (h : ∀ r ∈ rows, ∀ l, r.line = some l → l ≤ rows.length) : f__law_tagged [.val (.list (rows.map Row.enc)), .val (.list (rngL 0 rows.length))] = ret (.list (tagsFrom rows.length 0 rows)) := by
  obtain ⟨a', b', c', e⟩ := l_tag_loop (R := .list (rows.map Row.enc)) hn rows 0 [] .emp .emp .emp (Nat.zero_add _) rfl h
  rw [List.nil_append, nc0] at e
  unfold f__law_tagged evF s__law_tagged
  simp -implicitDefEqProofs only [evSs, evS, evE, evAnd, evOr, evL, evA, evO, evC, evI, froz, thaw_nil, thaw, behind_nil, behind_int, behind_bool, behind_str, behind_none, behind_tup, behind_lst, isFeed, asB, asI, isNone_none, isNone_bool, isNone_int, isNone_str, isNone_tup, isNone_lst, mb_ret, mb_bad, mb_mb, ofO_ret, ofO_bad, List.getElem?_cons_zero, List.getElem?_cons_succ, List.cons_append, List.nil_append, List.replicate, List.length_cons, List.length_nil, List.set_cons_zero, List.set_cons_succ, bindT_nm, bindT_tp, setAll, setO, Option.map_some, Option.map_none, List.map_cons, List.map_nil, wipeR, ite_tt, ite_ft, if_true, if_false, Nat.reduceAdd, Nat.reduceSub, Bool.false_eq_true]
  rw [e]
  simp -implicitDefEqProofs only [evSs, evS, evE, evAnd, evOr, evL, evA, evO, evC, evI, froz, thaw_nil, thaw, behind_nil, behind_int, behind_bool, behind_str, behind_none, behind_tup, behind_lst, isFeed, asB, asI, isNone_none, isNone_bool, isNone_int, isNone_str, isNone_tup, isNone_lst, mb_ret, mb_bad, mb_mb, ofO_ret, ofO_bad, List.getElem?_cons_zero, List.getElem?_cons_succ, List.cons_append, List.nil_append, List.replicate, List.length_cons, List.length_nil, List.set_cons_zero, List.set_cons_succ, bindT_nm, bindT_tp, setAll, setO, Option.map_some, Option.map_none, List.map_cons, List.map_nil, wipeR, ite_tt, ite_ft, if_true, if_false, Nat.reduceAdd, Nat.reduceSub, Bool.false_eq_true, List.contains_cons, List.contains_nil, Nat.reduceBEq, Bool.or_false]
end Qv.K5

namespace Qv.K5
open PySem Tx
/-- words, tag, goal -/
structure Tr where
  w : List D
  t : D
  g : D
def Tr.enc (e : Tr) : D := .tuple [.tuple e.w, e.t, e.g]
def Tr.out (ix : D → Nat) (e : Tr) : D := if isNone e.g = true then .tuple e.w else .tuple (e.w ++ [.int (ix e.g)])
def tagL (lot : List Tr) : List D := lot.map (·.t) ++ [.str "behind"]
theorem mth_index {xs : List D} {a : D} {j : Nat} (h1 : flat a = true) (h2 : xs.all flat = true) (h3 : idxF a xs = some j) : mth .index (.list xs) [a] = some (.int j) := by
  show (if (flat a && xs.all flat) = true then (idxF a xs).map (fun j => PyData.int (j : Nat)) else none) = _
  rw [h1, h2, h3]
  rfl
theorem l_untagged {lot : List Tr} {ix : D → Nat} (hl : lot.length ≤ 1000) (hf : ∀ e ∈ lot, flat e.t = true) (hg : ∀ e ∈ lot, e.w.length ≤ 1000 ∧ (isNone e.g = false → flat e.g = true ∧ idxF e.g (tagL lot) = some (ix e.g))) :
    f__law_untagged [.val (.list (lot.map Tr.enc))] = ret (.list (lot.map (Tr.out ix))) := by
  have ha : (tagL lot).all flat = true := by
    refine List.all_eq_true.mpr fun d hd => ?_
    rcases List.mem_append.mp hd with hd | hd
    · obtain ⟨e, he, rfl⟩ := List.mem_map.mp hd
      exact hf e he
    · rw [List.mem_singleton.mp hd]
      rfl
  unfold f__law_untagged evF s__law_untagged
  simp -implicitDefEqProofs only [evSs, evS, evE, evAnd, evOr, evL, evA, evO, evC, evI, froz, thaw_nil, thaw, behind_nil, behind_int, behind_bool, behind_str, behind_none, behind_tup, behind_lst, isFeed, asB, asI, isNone_none, isNone_bool, isNone_int, isNone_str, isNone_tup, isNone_lst, mb_ret, mb_bad, mb_mb, ofO_ret, ofO_bad, List.getElem?_cons_zero, List.getElem?_cons_succ, List.cons_append, List.nil_append, List.replicate, List.length_cons, List.length_nil, List.set_cons_zero, List.set_cons_succ, bindT_nm, bindT_tp, setAll, setO, Option.map_some, Option.map_none, List.map_cons, List.map_nil, wipeR, ite_tt, ite_ft, if_true, if_false, Nat.reduceAdd, Nat.reduceSub, Bool.false_eq_true, itemsOf]
  rw [compL_of (g := fun e : Tr => e.t) fun e _ => by
    unfold Tr.enc
    simp -implicitDefEqProofs only [evSs, evS, evE, evAnd, evOr, evL, evA, evO, evC, evI, froz, thaw_nil, thaw, behind_nil, behind_int, behind_bool, behind_str, behind_none, behind_tup, behind_lst, isFeed, asB, asI, isNone_none, isNone_bool, isNone_int, isNone_str, isNone_tup, isNone_lst, mb_ret, mb_bad, mb_mb, ofO_ret, ofO_bad, List.getElem?_cons_zero, List.getElem?_cons_succ, List.cons_append, List.nil_append, List.replicate, List.length_cons, List.length_nil, List.set_cons_zero, List.set_cons_succ, bindT_nm, bindT_tp, setAll, setO, Option.map_some, Option.map_none, List.map_cons, List.map_nil, wipeR, ite_tt, ite_ft, if_true, if_false, Nat.reduceAdd, Nat.reduceSub, Bool.false_eq_true]]
  have h2 : lenOk (lot.map fun e => e.t).length = true := by
    rw [List.length_map]
    exact lenOk_of (by omega)
  have h3 : lenOk ((lot.map fun e => e.t).length + 1) = true := by
    rw [List.length_map]
    exact lenOk_of (by omega)
  simp -implicitDefEqProofs only [evSs, evS, evE, evAnd, evOr, evL, evA, evO, evC, evI, froz, thaw_nil, thaw, behind_nil, behind_int, behind_bool, behind_str, behind_none, behind_tup, behind_lst, isFeed, asB, asI, isNone_none, isNone_bool, isNone_int, isNone_str, isNone_tup, isNone_lst, mb_ret, mb_bad, mb_mb, ofO_ret, ofO_bad, List.getElem?_cons_zero, List.getElem?_cons_succ, List.cons_append, List.nil_append, List.replicate, List.length_cons, List.length_nil, List.set_cons_zero, List.set_cons_succ, bindT_nm, bindT_tp, setAll, setO, Option.map_some, Option.map_none, List.map_cons, List.map_nil, wipeR, ite_tt, ite_ft, if_true, if_false, Nat.reduceAdd, Nat.reduceSub, Bool.false_eq_true, h2, bop_add_l, h3]
  rw [compL_of (g := Tr.out ix) fun e he => by
    obtain ⟨g1, g2⟩ := hg e he
    unfold Tr.enc Tr.out
    cases hn : isNone e.g with
    | true => simp -implicitDefEqProofs only [evSs, evS, evE, evAnd, evOr, evL, evA, evO, evC, evI, froz, thaw_nil, thaw, behind_nil, behind_int, behind_bool, behind_str, behind_none, behind_tup, behind_lst, isFeed, asB, asI, isNone_none, isNone_bool, isNone_int, isNone_str, isNone_tup, isNone_lst, mb_ret, mb_bad, mb_mb, ofO_ret, ofO_bad, List.getElem?_cons_zero, List.getElem?_cons_succ, List.cons_append, List.nil_append, List.replicate, List.length_cons, List.length_nil, List.set_cons_zero, List.set_cons_succ, bindT_nm, bindT_tp, setAll, setO, Option.map_some, Option.map_none, List.map_cons, List.map_nil, wipeR, ite_tt, ite_ft, if_true, if_false, Nat.reduceAdd, Nat.reduceSub, Bool.false_eq_true, hn]
    | false =>
      obtain ⟨g3, g4⟩ := g2 hn
      have g5 := mth_index g3 ha g4
      have g6 : lenOk (e.w.length + 1) = true := lenOk_of (by omega)
      unfold tagL at g5
      simp -implicitDefEqProofs only [evSs, evS, evE, evAnd, evOr, evL, evA, evO, evC, evI, froz, thaw_nil, thaw, behind_nil, behind_int, behind_bool, behind_str, behind_none, behind_tup, behind_lst, isFeed, asB, asI, isNone_none, isNone_bool, isNone_int, isNone_str, isNone_tup, isNone_lst, mb_ret, mb_bad, mb_mb, ofO_ret, ofO_bad, List.getElem?_cons_zero, List.getElem?_cons_succ, List.cons_append, List.nil_append, List.replicate, List.length_cons, List.length_nil, List.set_cons_zero, List.set_cons_succ, bindT_nm, bindT_tp, setAll, setO, Option.map_some, Option.map_none, List.map_cons, List.map_nil, wipeR, ite_tt, ite_ft, if_true, if_false, Nat.reduceAdd, Nat.reduceSub, Bool.false_eq_true, hn, g5, bop_add_t, g6]]
  have h4 : lenOk (lot.map (Tr.out ix)).length = true := by
    rw [List.length_map]
    exact lenOk_of (by omega)
  simp -implicitDefEqProofs only [evSs, evS, evE, evAnd, evOr, evL, evA, evO, evC, evI, froz, thaw_nil, thaw, behind_nil, behind_int, behind_bool, behind_str, behind_none, behind_tup, behind_lst, isFeed, asB, asI, isNone_none, isNone_bool, isNone_int, isNone_str, isNone_tup, isNone_lst, mb_ret, mb_bad, mb_mb, ofO_ret, ofO_bad, List.getElem?_cons_zero, List.getElem?_cons_succ, List.cons_append, List.nil_append, List.replicate, List.length_cons, List.length_nil, List.set_cons_zero, List.set_cons_succ, bindT_nm, bindT_tp, setAll, setO, Option.map_some, Option.map_none, List.map_cons, List.map_nil, wipeR, ite_tt, ite_ft, if_true, if_false, Nat.reduceAdd, Nat.reduceSub, Bool.false_eq_true, h4]
end Qv.K5

namespace Qv.K5
open PySem Tx
/-! ### tags of rows, typed -/
def trs (γ : Option Nat → D) : Nat → List Row → List Tr
  | _, [] => []
  | i, r :: rest => ⟨r.words, .int i, γ r.line⟩ :: trs γ (i + 1) rest
theorem trs_enc (n : Nat) : ∀ (rows : List Row) (i : Nat), tagsFrom n i rows = (trs (goalD n) i rows).map Tr.enc
  | [], _ => rfl
  | r :: rest, i => by
    rw [tagsFrom, trs, List.map_cons, trs_enc n rest (i + 1)]
    rfl
theorem trs_t (γ : Option Nat → D) : ∀ (rows : List Row) (i : Nat), (trs γ i rows).map (fun e => e.t) = rngL i rows.length
  | [], _ => rfl
  | r :: rest, i => by
    rw [trs, List.map_cons, trs_t γ rest (i + 1), List.length_cons, rngL, cast_succ]
theorem trs_len (γ : Option Nat → D) : ∀ (rows : List Row) (i : Nat), (trs γ i rows).length = rows.length
  | [], _ => rfl
  | r :: rest, i => by
    rw [trs, List.length_cons, trs_len γ rest (i + 1), List.length_cons]
theorem trs_mem {γ : Option Nat → D} : ∀ {rows : List Row} {i : Nat} {e : Tr}, e ∈ trs γ i rows → ∃ r ∈ rows, e.w = r.words ∧ e.g = γ r.line ∧ ∃ j : Nat, e.t = .int j
  | [], _, _, h => nomatch h
  | r :: rest, i, e, h => by
    rw [trs] at h
    rcases List.mem_cons.mp h with rfl | h
    · exact ⟨r, List.mem_cons_self, rfl, rfl, i, rfl⟩
    · obtain ⟨q, h1, h2⟩ := trs_mem h
      exact ⟨q, List.mem_cons_of_mem _ h1, h2⟩
theorem idxF_at {g : D} : ∀ {xs : List D} {j : Nat}, xs[j]? = some g → eqF g g = true → (∀ i, i < j → ∀ x, xs[i]? = some x → eqF x g = false) → idxF g xs = some j
  | [], _, h, _, _ => nomatch h
  | x :: r, 0, h, h1, _ => by
    have e : x = g := Option.some.inj h
    rw [idxF, e, h1]
    rfl
  | x :: r, j + 1, h, h1, h2 => by
    rw [idxF, h2 0 (by omega) x rfl, idxF_at (xs := r) (j := j) h h1 fun i hi y hy => h2 (i + 1) (by omega) y hy]
    rfl
theorem words_len (r : Row) : r.words.length ≤ 1000 := by
  cases r <;> (unfold Row.words; simp only [List.length_cons, List.length_nil]; omega)
theorem put_enc {r : Row} {l m : Nat} (h : r.line = some l) : (r.put m).enc = .tuple (r.words ++ [.int m]) := by
  cases r <;> first | rfl | cases h
theorem goalD_some (n l : Nat) : goalD n (some l) = if l < n then .int l else .str "behind" := rfl
theorem goal_none (n l : Nat) : isNone (goalD n (some l)) = false := by
  rw [goalD_some]
  by_cases h : l < n
  · rw [if_pos h]
    rfl
  · rw [if_neg h]
    rfl
/-- the row that a tag's row is, its goal at another place -/
def Row.at (f : Nat → Nat) (r : Row) : Row := match r.line with
  | some l => r.put (f l)
  | none => r
theorem out_row {ix : D → Nat} {f : Nat → Nat} {g : D} {r : Row} {t : D} (h0 : r.line = none → isNone g = true) (h : ∀ l, r.line = some l → isNone g = false ∧ ix g = f l) : Tr.out ix ⟨r.words, t, g⟩ = (r.at f).enc := by
  unfold Tr.out Row.at
  cases hl : r.line with
  | none =>
    simp only [h0 hl, if_true]
    exact (enc_words hl).symm
  | some l =>
    obtain ⟨h1, h2⟩ := h l hl
    simp only [h1, Bool.false_eq_true, if_false]
    rw [h2, put_enc hl]
theorem at_up (r : Row) (k : Nat) : r.at (fun l => if l < k then l else l + 1) = r.up k := by
  unfold Row.at Row.up
  cases hl : r.line with
  | none => rfl
  | some l =>
    by_cases h : l < k
    · simp only [if_pos h]
      cases r <;> cases hl <;> rfl
    · simp only [if_neg h]
theorem at_down (r : Row) (k : Nat) : r.at (fun l => if l < k then l else l - 1) = r.down k := by
  unfold Row.at Row.down
  cases hl : r.line with
  | none => rfl
  | some l =>
    by_cases h : l < k
    · simp only [if_pos h]
      cases r <;> cases hl <;> rfl
    · simp only [if_neg h]
theorem trs_out {ix : D → Nat} {f : Nat → Nat} {γ : Option Nat → D} (h0 : isNone (γ none) = true) : ∀ {rows : List Row} {i : Nat}, (∀ r ∈ rows, ∀ l, r.line = some l → isNone (γ (some l)) = false ∧ ix (γ (some l)) = f l) → (trs γ i rows).map (Tr.out ix) = rows.map fun r => (r.at f).enc
  | [], _, _ => rfl
  | r :: rest, i, h => by
    rw [trs, List.map_cons, List.map_cons, out_row (f := f) (fun e => by rw [e]; exact h0) (fun l e => by rw [e]; exact h r List.mem_cons_self l e), trs_out h0 fun q hq => h q (List.mem_cons_of_mem _ hq)]
/-- the tags with a new one at w -/
def tagIn (w n j : Nat) : D := if j < w then .int j else if j = w then .str "new" else if j ≤ n then .int ((j - 1 : Nat) : Int) else .str "behind"
def tagsIn (w n : Nat) : List D := (rngL 0 n).take w ++ [.str "new"] ++ (rngL 0 n).drop w ++ [.str "behind"]
theorem rng_get {n i : Nat} (h : i < n) : (rngL 0 n)[i]? = some (.int i) := by
  obtain ⟨d, hd⟩ : ∃ d, (rngL 0 n)[i]? = some d := ⟨_, List.getElem?_eq_getElem (by rw [rngL_len]; exact h)⟩
  rw [hd, (rngL_get n 0 i d hd).1, Int.zero_add]
theorem tagsIn_at {w n j : Nat} (hw : w ≤ n) (hj : j ≤ n + 1) : (tagsIn w n)[j]? = some (tagIn w n j) := by
  unfold tagsIn tagIn
  have l1 : ((rngL 0 n).take w).length = w := by
    rw [List.length_take, rngL_len]
    omega
  have l2 : ((rngL 0 n).drop w).length = n - w := by
    rw [List.length_drop, rngL_len]
  by_cases h1 : j < w
  · rw [if_pos h1, List.append_assoc, List.append_assoc, List.getElem?_append_left (by omega), List.getElem?_take, if_pos h1, rng_get (by omega)]
  · rw [if_neg h1]
    by_cases h2 : j = w
    · rw [if_pos h2, List.append_assoc, List.append_assoc, List.getElem?_append_right (by omega), l1, h2, Nat.sub_self]
      rfl
    · rw [if_neg h2]
      have l3 : ((rngL 0 n).take w ++ [PyData.str "new"]).length = w + 1 := by
        rw [List.length_append, l1]
        rfl
      by_cases h3 : j ≤ n
      · rw [if_pos h3, List.append_assoc, List.getElem?_append_right (by omega), l3, List.getElem?_append_left (by omega), List.getElem?_drop, rng_get (by omega)]
        congr 3
        omega
      · have e : j = n + 1 := by omega
        rw [if_neg h3, List.getElem?_append_right (by rw [List.length_append, l3, l2]; omega), List.length_append, l3, l2, e]
        have e2 : n + 1 - (w + 1 + (n - w)) = 0 := by omega
        rw [e2]
        rfl
theorem eqF_ii (a b : Nat) : eqF (.int a) (.int b) = decide (a = b) := by
  show ((a : Int) == (b : Int)) = _
  by_cases h : a = b
  · rw [h, decide_eq_true rfl, beq_self_eq_true]
  · rw [decide_eq_false h, beq_eq_false_iff_ne]
    omega
theorem eqF_is (a : Int) (b : Str) : eqF (.int a) (.str b) = false := rfl
theorem eqF_si (a : Int) (b : Str) : eqF (.str b) (.int a) = false := rfl
theorem tagIn_self (w n j : Nat) : eqF (tagIn w n j) (tagIn w n j) = true ∧ flat (tagIn w n j) = true := by
  unfold tagIn
  by_cases h1 : j < w
  · simp only [if_pos h1, eqF_ii, decide_true]
    exact ⟨trivial, rfl⟩
  · simp only [if_neg h1]
    by_cases h2 : j = w
    · simp only [if_pos h2]
      exact ⟨rfl, rfl⟩
    · simp only [if_neg h2]
      by_cases h3 : j ≤ n
      · simp only [if_pos h3, eqF_ii, decide_true]
        exact ⟨trivial, rfl⟩
      · simp only [if_neg h3]
        exact ⟨rfl, rfl⟩
theorem tagIn_ne {w n i j : Nat} (h : i < j) (hj : j ≤ n + 1) (hw : w ≤ n) : eqF (tagIn w n i) (tagIn w n j) = false := by
  unfold tagIn
  have nb : eqF (.str "new") (.str "behind") = false := by
    rw [eqF_str, beq_str]
    simp only [ofS_inj, String.reduceEq, decide_false]
  repeat' split
  all_goals first | omega | (rw [eqF_ii]; exact decide_eq_false (by omega)) | rfl | exact nb
theorem tagIn_idx {w n j : Nat} (hw : w ≤ n) (hj : j ≤ n + 1) : idxF (tagIn w n j) (tagsIn w n) = some j := by
  refine idxF_at (tagsIn_at hw hj) (tagIn_self w n j).1 fun i hi x hx => ?_
  rw [tagsIn_at hw (by omega)] at hx
  rw [← Option.some.inj hx]
  exact tagIn_ne hi hj hw
theorem goal_in {w n l : Nat} (hw : w ≤ n) (hl : l ≤ n) : goalD n (some l) = tagIn w n (if l < w then l else l + 1) := by
  rw [goalD_some]
  unfold tagIn
  repeat' split
  all_goals first | omega | rfl
theorem lotIn_tags {γ : Option Nat → D} {rows : List Row} {w : Nat} {e : Tr} (he : e.t = .str "new") : tagL ((trs γ 0 rows).take w ++ [e] ++ (trs γ 0 rows).drop w) = tagsIn w rows.length := by
  unfold tagL tagsIn
  rw [List.map_append, List.map_append, List.map_take, List.map_drop, trs_t, List.map_cons, List.map_nil, he]
  rfl
end Qv.K5

namespace Qv.K5
open PySem Tx
theorem put_in_end {rows : List Row} {w : Nat} {r : Row} {g : D} (hw : w ≤ rows.length) (hn : rows.length ≤ 900) (h : ∀ q ∈ rows, ∀ l, q.line = some l → l ≤ rows.length) (h0 : r.line = none → g = .none) (h1 : ∀ l, r.line = some l → l ≤ rows.length + 1 ∧ g = tagIn w rows.length l) :
    f__law_untagged [.val (.list (((trs (goalD rows.length) 0 rows).take w ++ [(⟨r.words, .str "new", g⟩ : Tr)] ++ (trs (goalD rows.length) 0 rows).drop w).map Tr.enc))] = ret (.list ((putIn rows w r).map Row.enc)) := by
  let n := rows.length
  let ix : D → Nat := fun g => (idxF g (tagsIn w n)).getD 0
  have hix : ∀ j, j ≤ n + 1 → ix (tagIn w n j) = j := fun j hj => by
    show (idxF _ _).getD 0 = j
    rw [tagIn_idx hw hj]
    rfl
  have hgl : ∀ l, l ≤ n → isNone (goalD n (some l)) = false ∧ ix (goalD n (some l)) = if l < w then l else l + 1 := fun l hl => by
    refine ⟨goal_none n l, ?_⟩
    rw [goal_in hw hl]
    refine hix _ ?_
    split <;> omega
  have hfl : ∀ l, l ≤ n → flat (goalD n (some l)) = true ∧ idxF (goalD n (some l)) (tagsIn w n) = some (ix (goalD n (some l))) := fun l hl => by
    rw [goal_in hw hl]
    have hj : (if l < w then l else l + 1) ≤ n + 1 := by split <;> omega
    refine ⟨(tagIn_self w n _).2, ?_⟩
    rw [tagIn_idx hw hj, hix _ hj]
  have key : ∀ e ∈ (trs (goalD n) 0 rows).take w ++ [(⟨r.words, .str "new", g⟩ : Tr)] ++ (trs (goalD n) 0 rows).drop w, flat e.t = true ∧ e.w.length ≤ 1000 ∧ (isNone e.g = false → flat e.g = true ∧ idxF e.g (tagsIn w n) = some (ix e.g)) := by
    have kt : ∀ e ∈ trs (goalD n) 0 rows, flat e.t = true ∧ e.w.length ≤ 1000 ∧ (isNone e.g = false → flat e.g = true ∧ idxF e.g (tagsIn w n) = some (ix e.g)) := fun e he => by
      obtain ⟨q, q1, q2, q3, j, q4⟩ := trs_mem he
      rw [q4, q2, q3]
      refine ⟨rfl, words_len q, fun hg => ?_⟩
      cases hl : q.line with
      | none =>
        rw [hl] at hg
        cases hg
      | some l => exact hfl l (h q q1 l hl)
    intro e he
    rcases List.mem_append.mp he with he | he
    · rcases List.mem_append.mp he with he | he
      · exact kt e (List.mem_of_mem_take he)
      · rw [List.mem_singleton.mp he]
        refine ⟨rfl, words_len r, fun hg => ?_⟩
        cases hl : r.line with
        | none =>
          have : isNone g = false := hg
          rw [h0 hl] at this
          cases this
        | some l =>
          obtain ⟨h2, h3⟩ := h1 l hl
          show flat g = true ∧ idxF g _ = some (ix g)
          rw [h3, tagIn_idx hw h2]
          exact ⟨(tagIn_self w n l).2, by rw [hix l h2]⟩
    · exact kt e (List.mem_of_mem_drop he)
  rw [l_untagged (ix := ix) (by
      rw [List.length_append, List.length_append, List.length_take, List.length_drop, trs_len, List.length_singleton]
      omega) (fun e he => (key e he).1) fun e he => by
      rw [lotIn_tags rfl]
      exact (key e he).2]
  rw [List.map_append, List.map_append, List.map_take, List.map_drop, trs_out (f := fun l => if l < w then l else l + 1) rfl fun q hq l hl => hgl l (h q hq l hl), List.map_cons, List.map_nil]
  rw [out_row (f := fun l => l) (fun e => by rw [h0 e]; rfl) fun l hl => by
    obtain ⟨h2, h3⟩ := h1 l hl
    rw [h3]
    refine ⟨?_, hix l h2⟩
    have := (tagIn_self w n l).1
    cases hg : isNone (tagIn w n l) with
    | false => rfl
    | true =>
      exfalso
      unfold tagIn at hg
      revert hg
      repeat' split
      all_goals (intro hg; cases hg)]
  have e1 : (r.at fun l => l) = r := by
    unfold Row.at
    cases r <;> rfl
  have e2 : (rows.map fun q => (q.at fun l => if l < w then l else l + 1).enc) = (rows.map (Row.up w)).map Row.enc := by
    rw [List.map_map]
    exact List.map_congr_left fun q _ => by
      show _ = (q.up w).enc
      rw [at_up]
  rw [e1, e2]
  unfold putIn
  rw [List.map_append, List.map_append, List.map_take, List.map_drop]
  rfl
theorem l_put_in {rows : List Row} {w : Nat} {r : Row} (hw : w ≤ rows.length) (hn : rows.length ≤ 900) (h : ∀ q ∈ rows, ∀ l, q.line = some l → l ≤ rows.length) (hr : ∀ l, r.line = some l → l ≤ rows.length + 1) :
    f__law_put_in [.val (encRows rows), .val (.int w), .val r.enc] = ret (.list ((putIn rows w r).map Row.enc)) := by
  have c1 : rngOk (rows.length : Int) = true := decide_eq_true (by omega)
  have c2 := l_tagged (rows := rows) (by omega) h
  have c3 : lenOk rows.length = true := lenOk_of (by omega)
  have c4 : lenOk (w + 1) = true := lenOk_of (by omega)
  have c5 : lenOk (w + 1 + (rows.length - w)) = true := lenOk_of (by omega)
  have c6 : lenOk (w + 1 + (rows.length - w) + 1) = true := lenOk_of (by omega)
  have c7 := l_lined r
  rw [trs_enc] at c2
  unfold f__law_put_in evF s__law_put_in encRows
  simp -implicitDefEqProofs only [evSs, evS, evE, evAnd, evOr, evL, evA, evO, evC, evI, froz, thaw_nil, thaw, behind_nil, behind_int, behind_bool, behind_str, behind_none, behind_tup, behind_lst, isFeed, asB, asI, isNone_none, isNone_bool, isNone_int, isNone_str, isNone_tup, isNone_lst, mb_ret, mb_bad, mb_mb, ofO_ret, ofO_bad, List.getElem?_cons_zero, List.getElem?_cons_succ, List.cons_append, List.nil_append, List.replicate, List.length_cons, List.length_nil, List.set_cons_zero, List.set_cons_succ, bindT_nm, bindT_tp, setAll, setO, Option.map_some, Option.map_none, List.map_cons, List.map_nil, wipeR, ite_tt, ite_ft, if_true, if_false, Nat.reduceAdd, Nat.reduceSub, Bool.false_eq_true, bi_lst_t, bi_len_t, List.length_map, c1, Int.toNat_natCast, at_5__law_tagged_2, c2, itemsOf]
  rw [compL_of (g := fun e : Tr => e.t) fun e _ => by
    unfold Tr.enc
    simp -implicitDefEqProofs only [evSs, evS, evE, evAnd, evOr, evL, evA, evO, evC, evI, froz, thaw_nil, thaw, behind_nil, behind_int, behind_bool, behind_str, behind_none, behind_tup, behind_lst, isFeed, asB, asI, isNone_none, isNone_bool, isNone_int, isNone_str, isNone_tup, isNone_lst, mb_ret, mb_bad, mb_mb, ofO_ret, ofO_bad, List.getElem?_cons_zero, List.getElem?_cons_succ, List.cons_append, List.nil_append, List.replicate, List.length_cons, List.length_nil, List.set_cons_zero, List.set_cons_succ, bindT_nm, bindT_tp, setAll, setO, Option.map_some, Option.map_none, List.map_cons, List.map_nil, wipeR, ite_tt, ite_ft, if_true, if_false, Nat.reduceAdd, Nat.reduceSub, Bool.false_eq_true]]
  rw [trs_t, nc0]
  simp -implicitDefEqProofs only [evSs, evS, evE, evAnd, evOr, evL, evA, evO, evC, evI, froz, thaw_nil, thaw, behind_nil, behind_int, behind_bool, behind_str, behind_none, behind_tup, behind_lst, isFeed, asB, asI, isNone_none, isNone_bool, isNone_int, isNone_str, isNone_tup, isNone_lst, mb_ret, mb_bad, mb_mb, ofO_ret, ofO_bad, List.getElem?_cons_zero, List.getElem?_cons_succ, List.cons_append, List.nil_append, List.replicate, List.length_cons, List.length_nil, List.set_cons_zero, List.set_cons_succ, bindT_nm, bindT_tp, setAll, setO, Option.map_some, Option.map_none, List.map_cons, List.map_nil, wipeR, ite_tt, ite_ft, if_true, if_false, Nat.reduceAdd, Nat.reduceSub, Bool.false_eq_true, rngL_len, c3, sl_lst_to, sl_lst_from, bop_add_l, List.length_take, List.length_drop, List.length_append, List.length_map, trs_len, Nat.min_eq_left hw, c4, c5, c6, at_5__law_lined_1, c7]
  have fold : ∀ g : D, List.take w ((trs (goalD rows.length) 0 rows).map Tr.enc) ++ [.tuple [.tuple r.words, .str "new", g]] ++ List.drop w ((trs (goalD rows.length) 0 rows).map Tr.enc) = ((trs (goalD rows.length) 0 rows).take w ++ [(⟨r.words, .str "new", g⟩ : Tr)] ++ (trs (goalD rows.length) 0 rows).drop w).map Tr.enc := fun g => by
    rw [List.map_append, List.map_append, List.map_take, List.map_drop]
    rfl
  cases hl : r.line with
  | none =>
    have e := enc_words hl
    have z := put_in_end (g := .none) hw hn h (fun _ => rfl) fun l e => by rw [hl] at e; cases e
    rw [e]
    simp -implicitDefEqProofs only [evSs, evS, evE, evAnd, evOr, evL, evA, evO, evC, evI, froz, thaw_nil, thaw, behind_nil, behind_int, behind_bool, behind_str, behind_none, behind_tup, behind_lst, isFeed, asB, asI, isNone_none, isNone_bool, isNone_int, isNone_str, isNone_tup, isNone_lst, mb_ret, mb_bad, mb_mb, ofO_ret, ofO_bad, List.getElem?_cons_zero, List.getElem?_cons_succ, List.cons_append, List.nil_append, List.replicate, List.length_cons, List.length_nil, List.set_cons_zero, List.set_cons_succ, bindT_nm, bindT_tp, setAll, setO, Option.map_some, Option.map_none, List.map_cons, List.map_nil, wipeR, ite_tt, ite_ft, if_true, if_false, Nat.reduceAdd, Nat.reduceSub, Bool.false_eq_true, Option.isSome, rngL_len, c3, sl_lst_to, sl_lst_from, bop_add_l, List.length_take, List.length_drop, List.length_append, List.length_map, trs_len, Nat.min_eq_left hw, c4, c5, c6, at_5__law_untagged_1, fold, z]
  | some l =>
    obtain ⟨e1, e2⟩ := enc_last hl
    have z := put_in_end (g := tagIn w rows.length l) hw hn h (fun e => by rw [hl] at e; cases e) fun l' e => by
      rw [hl] at e
      cases e
      exact ⟨hr l hl, rfl⟩
    have e3 : ixD (.list (List.take w (rngL 0 rows.length) ++ [.str "new"] ++ List.drop w (rngL 0 rows.length) ++ [.str "behind"])) (.int l) = some (tagIn w rows.length l) := ix_l (tagsIn_at hw (hr l hl))
    simp -implicitDefEqProofs only [evSs, evS, evE, evAnd, evOr, evL, evA, evO, evC, evI, froz, thaw_nil, thaw, behind_nil, behind_int, behind_bool, behind_str, behind_none, behind_tup, behind_lst, isFeed, asB, asI, isNone_none, isNone_bool, isNone_int, isNone_str, isNone_tup, isNone_lst, mb_ret, mb_bad, mb_mb, ofO_ret, ofO_bad, List.getElem?_cons_zero, List.getElem?_cons_succ, List.cons_append, List.nil_append, List.replicate, List.length_cons, List.length_nil, List.set_cons_zero, List.set_cons_succ, bindT_nm, bindT_tp, setAll, setO, Option.map_some, Option.map_none, List.map_cons, List.map_nil, wipeR, ite_tt, ite_ft, if_true, if_false, Nat.reduceAdd, Nat.reduceSub, Bool.false_eq_true, Option.isSome, Int.reduceNeg, e1, e2, e3, rngL_len, c3, sl_lst_to, sl_lst_from, bop_add_l, List.length_take, List.length_drop, List.length_append, List.length_map, trs_len, Nat.min_eq_left hw, c4, c5, c6, at_5__law_untagged_1, fold, z]
end Qv.K5

namespace Qv.K5
open PySem Tx
/-! ### a row left out, by tags -/
def tagOut (w n j : Nat) : D := if j < w then .int j else if j + 1 < n then .int ((j + 1 : Nat) : Int) else .str "behind"
def tagsOut (w n : Nat) : List D := (rngL 0 n).take w ++ (rngL 0 n).drop (w + 1) ++ [.str "behind"]
theorem tagsOut_at {w n j : Nat} (hw : w < n) (hj : j < n) : (tagsOut w n)[j]? = some (tagOut w n j) := by
  unfold tagsOut tagOut
  have l1 : ((rngL 0 n).take w).length = w := by
    rw [List.length_take, rngL_len]
    omega
  have l2 : ((rngL 0 n).drop (w + 1)).length = n - (w + 1) := by
    rw [List.length_drop, rngL_len]
  by_cases h1 : j < w
  · rw [if_pos h1, List.append_assoc, List.getElem?_append_left (by omega), List.getElem?_take, if_pos h1, rng_get (by omega)]
  · rw [if_neg h1]
    by_cases h3 : j + 1 < n
    · rw [if_pos h3, List.append_assoc, List.getElem?_append_right (by omega), l1, List.getElem?_append_left (by omega), List.getElem?_drop, rng_get (by omega)]
      congr 3
      omega
    · rw [if_neg h3, List.getElem?_append_right (by rw [List.length_append, l1, l2]; omega), List.length_append, l1, l2]
      have e2 : j - (w + (n - (w + 1))) = 0 := by omega
      rw [e2]
      rfl
theorem tagOut_self (w n j : Nat) : eqF (tagOut w n j) (tagOut w n j) = true ∧ flat (tagOut w n j) = true ∧ isNone (tagOut w n j) = false := by
  unfold tagOut
  by_cases h1 : j < w
  · simp only [if_pos h1, eqF_ii, decide_true]
    exact ⟨trivial, rfl, rfl⟩
  · simp only [if_neg h1]
    by_cases h3 : j + 1 < n
    · simp only [if_pos h3, eqF_ii, decide_true]
      exact ⟨trivial, rfl, rfl⟩
    · simp only [if_neg h3]
      exact ⟨rfl, rfl, rfl⟩
theorem tagOut_ne {w n i j : Nat} (h : i < j) (hj : j < n) : eqF (tagOut w n i) (tagOut w n j) = false := by
  unfold tagOut
  repeat' split
  all_goals first | omega | (rw [eqF_ii]; exact decide_eq_false (by omega)) | rfl
theorem tagOut_idx {w n j : Nat} (hw : w < n) (hj : j < n) : idxF (tagOut w n j) (tagsOut w n) = some j := by
  refine idxF_at (tagsOut_at hw hj) (tagOut_self w n j).1 fun i hi x hx => ?_
  rw [tagsOut_at hw (by omega)] at hx
  rw [← Option.some.inj hx]
  exact tagOut_ne hi hj
/-- goals behind the change -/
def goalO (w n : Nat) : Option Nat → D
  | none => .none
  | some l => if l = w then goalD n (some (w + 1)) else goalD n (some l)
theorem goal_out {w n l : Nat} (hw : w < n) (hl : l ≤ n) : goalO w n (some l) = tagOut w n (if l < w + 1 then l else l - 1) := by
  have e : goalO w n (some l) = if l = w then goalD n (some (w + 1)) else goalD n (some l) := rfl
  rw [e, goalD_some, goalD_some]
  unfold tagOut
  repeat' split
  all_goals first | omega | rfl | (congr 1; congr 1; omega) | skip
theorem lotOut_tags {γ : Option Nat → D} {rows : List Row} {w : Nat} : tagL ((trs γ 0 rows).take w ++ (trs γ 0 rows).drop (w + 1)) = tagsOut w rows.length := by
  unfold tagL tagsOut
  rw [List.map_append, List.map_take, List.map_drop, trs_t]
  rfl
theorem left_out_end {rows : List Row} {w : Nat} (hw : w < rows.length) (hn : rows.length ≤ 900) (h : ∀ q ∈ rows, ∀ l, q.line = some l → l ≤ rows.length) :
    f__law_untagged [.val (.list (((trs (goalO w rows.length) 0 rows).take w ++ (trs (goalO w rows.length) 0 rows).drop (w + 1)).map Tr.enc))] = ret (.list ((takeOut rows w).map Row.enc)) := by
  let n := rows.length
  let ix : D → Nat := fun g => (idxF g (tagsOut w n)).getD 0
  have hix : ∀ j, j < n → ix (tagOut w n j) = j := fun j hj => by
    show (idxF _ _).getD 0 = j
    rw [tagOut_idx hw hj]
    rfl
  have hj : ∀ l, l ≤ n → (if l < w + 1 then l else l - 1) < n := fun l hl => by split <;> omega
  have hgl : ∀ l, l ≤ n → isNone (goalO w n (some l)) = false ∧ ix (goalO w n (some l)) = if l < w + 1 then l else l - 1 := fun l hl => by
    rw [goal_out hw hl]
    exact ⟨(tagOut_self w n _).2.2, hix _ (hj l hl)⟩
  have hfl : ∀ l, l ≤ n → flat (goalO w n (some l)) = true ∧ idxF (goalO w n (some l)) (tagsOut w n) = some (ix (goalO w n (some l))) := fun l hl => by
    rw [goal_out hw hl]
    refine ⟨(tagOut_self w n _).2.1, ?_⟩
    rw [tagOut_idx hw (hj l hl), hix _ (hj l hl)]
  have kt : ∀ e ∈ trs (goalO w n) 0 rows, flat e.t = true ∧ e.w.length ≤ 1000 ∧ (isNone e.g = false → flat e.g = true ∧ idxF e.g (tagsOut w n) = some (ix e.g)) := fun e he => by
    obtain ⟨q, q1, q2, q3, j, q4⟩ := trs_mem he
    rw [q4, q2, q3]
    refine ⟨rfl, words_len q, fun hg => ?_⟩
    cases hl : q.line with
    | none =>
      rw [hl] at hg
      cases hg
    | some l => exact hfl l (h q q1 l hl)
  have key : ∀ e ∈ (trs (goalO w n) 0 rows).take w ++ (trs (goalO w n) 0 rows).drop (w + 1), e ∈ trs (goalO w n) 0 rows := fun e he => by
    rcases List.mem_append.mp he with he | he
    · exact List.mem_of_mem_take he
    · exact List.mem_of_mem_drop he
  rw [l_untagged (ix := ix) (by
      rw [List.length_append, List.length_take, List.length_drop, trs_len]
      omega) (fun e he => (kt e (key e he)).1) fun e he => by
      rw [lotOut_tags]
      exact (kt e (key e he)).2]
  rw [List.map_append, List.map_take, List.map_drop, trs_out (f := fun l => if l < w + 1 then l else l - 1) rfl fun q hq l hl => hgl l (h q hq l hl)]
  have e2 : (rows.map fun q => (q.at fun l => if l < w + 1 then l else l - 1).enc) = (rows.map (Row.down (w + 1))).map Row.enc := by
    rw [List.map_map]
    exact List.map_congr_left fun q _ => by
      show _ = (q.down (w + 1)).enc
      rw [at_down]
  rw [e2]
  unfold takeOut
  rw [List.map_append, List.map_append, List.map_take, List.map_drop, List.map_take, List.map_drop]
/-- one entry, its goal by the rule of the row left out -/
def hits (w : Nat) : D → Bool
  | .int i => i == (w : Int)
  | _ => false
def Tr.re (w : Nat) (B : D) (e : Tr) : Tr := ⟨e.w, e.t, if hits w e.g = true then B else e.g⟩
theorem hits_goal {w n l : Nat} (hw : w < n) : hits w (goalD n (some l)) = decide (l = w) := by
  rw [goalD_some]
  by_cases h : l < n
  · rw [if_pos h]
    show ((l : Int) == (w : Int)) = _
    by_cases e : l = w
    · rw [e, decide_eq_true rfl, beq_self_eq_true]
    · rw [decide_eq_false e, beq_eq_false_iff_ne]
      omega
  · rw [if_neg h, decide_eq_false (by omega)]
    rfl
theorem trs_re (w n : Nat) : ∀ (rows : List Row) (i : Nat), w < n → (trs (goalD n) i rows).map (Tr.re w (goalD n (some (w + 1)))) = trs (goalO w n) i rows
  | [], _, _ => rfl
  | r :: rest, i, hw => by
    rw [trs, trs, List.map_cons, trs_re w n rest (i + 1) hw]
    congr 1
    unfold Tr.re
    cases hl : r.line with
    | none => rfl
    | some l =>
      have e1 : goalO w n (some l) = if l = w then goalD n (some (w + 1)) else goalD n (some l) := rfl
      simp only [hits_goal hw, e1, decide_eq_true_eq]
end Qv.K5

namespace Qv.K5
open PySem Tx
theorem trs_get {γ : Option Nat → D} : ∀ {rows : List Row} {i j : Nat}, j < rows.length → ∃ e, (trs γ i rows)[j]? = some e ∧ e.t = .int ((i + j : Nat) : Int)
  | [], _, _, h => by cases h
  | r :: rest, i, 0, _ => ⟨_, rfl, rfl⟩
  | r :: rest, i, j + 1, h => by
    obtain ⟨e, e1, e2⟩ := trs_get (γ := γ) (rows := rest) (i := i + 1) (j := j) (by rw [List.length_cons] at h; omega)
    refine ⟨e, e1, ?_⟩
    rw [e2]
    congr 2
    omega
/-- what a goal is against a number -/
def Tr.fair (w : Nat) (e : Tr) : Prop := (isNone e.g = true ∧ hits w e.g = false) ∨ (isNone e.g = false ∧ cop .eq e.g (.int w) = some (hits w e.g))
theorem fair_goal {w n l : Nat} {ws : List D} {t : D} : Tr.fair w ⟨ws, t, goalD n (some l)⟩ := by
  refine .inr ⟨goal_none n l, ?_⟩
  show cop .eq (goalD n (some l)) _ = some (hits w (goalD n (some l)))
  rw [goalD_some]
  by_cases h : l < n
  · rw [if_pos h]
    rfl
  · rw [if_neg h]
    have h1 : SeqAt.shaped (.str "behind") = true := by kernel_rfl
    have h2 : SeqAt.shaped (.int (w : Int)) = true := rfl
    show (if (SeqAt.shaped (.str "behind") && SeqAt.shaped (.int (w : Int))) = true then some (PyData.eqv (.str "behind") (.int (w : Int))) else none) = some false
    rw [h1, h2, PyData.eqv]
    rfl
theorem l_out_step {w : Nat} {R B : D} {lot acc : List D} {e f : Tr} (ha : acc.length ≤ 1000) (hf : e.fair w) (h1 : lot[w]? = some f.enc) (h2 : f.t = .int w) :
    evSs G_37 fuel s__law_left_out_b1 [.val R, .val (.int w), .val (.list lot), .val B, .own acc, .val (.tuple e.w), .val e.t, .val e.g] =
      ret (.nx [.val R, .val (.int w), .val (.list lot), .val B, .own (acc ++ [(e.re w B).enc]), .val (.tuple e.w), .val e.t, .val e.g]) := by
  have c1 : ixD (.list lot) (.int w) = some (.tuple [.tuple f.w, .int w, f.g]) := by
    rw [ix_l h1]
    unfold Tr.enc
    rw [h2]
  have c2 : lenOk acc.length = true := lenOk_of (by omega)
  unfold s__law_left_out_b1 Tr.re Tr.enc
  rcases hf with ⟨hf, hf2⟩ | ⟨hf, hf2⟩
  · simp -implicitDefEqProofs only [evSs, evS, evE, evAnd, evOr, evL, evA, evO, evC, evI, froz, thaw_nil, thaw, behind_nil, behind_int, behind_bool, behind_str, behind_none, behind_tup, behind_lst, isFeed, asB, asI, isNone_none, isNone_bool, isNone_int, isNone_str, isNone_tup, isNone_lst, mb_ret, mb_bad, mb_mb, ofO_ret, ofO_bad, List.getElem?_cons_zero, List.getElem?_cons_succ, List.cons_append, List.nil_append, List.replicate, List.length_cons, List.length_nil, List.set_cons_zero, List.set_cons_succ, bindT_nm, bindT_tp, setAll, setO, Option.map_some, Option.map_none, List.map_cons, List.map_nil, wipeR, ite_tt, ite_ft, if_true, if_false, Nat.reduceAdd, Nat.reduceSub, Bool.false_eq_true, hf, Bool.not_true, c2, hf2]
  · cases hh : hits w e.g with
    | true =>
      rw [hh] at hf2
      simp -implicitDefEqProofs only [evSs, evS, evE, evAnd, evOr, evL, evA, evO, evC, evI, froz, thaw_nil, thaw, behind_nil, behind_int, behind_bool, behind_str, behind_none, behind_tup, behind_lst, isFeed, asB, asI, isNone_none, isNone_bool, isNone_int, isNone_str, isNone_tup, isNone_lst, mb_ret, mb_bad, mb_mb, ofO_ret, ofO_bad, List.getElem?_cons_zero, List.getElem?_cons_succ, List.cons_append, List.nil_append, List.replicate, List.length_cons, List.length_nil, List.set_cons_zero, List.set_cons_succ, bindT_nm, bindT_tp, setAll, setO, Option.map_some, Option.map_none, List.map_cons, List.map_nil, wipeR, ite_tt, ite_ft, if_true, if_false, Nat.reduceAdd, Nat.reduceSub, Bool.false_eq_true, hf, Bool.not_false, c1, ix_t1, hf2, c2]
    | false =>
      rw [hh] at hf2
      simp -implicitDefEqProofs only [evSs, evS, evE, evAnd, evOr, evL, evA, evO, evC, evI, froz, thaw_nil, thaw, behind_nil, behind_int, behind_bool, behind_str, behind_none, behind_tup, behind_lst, isFeed, asB, asI, isNone_none, isNone_bool, isNone_int, isNone_str, isNone_tup, isNone_lst, mb_ret, mb_bad, mb_mb, ofO_ret, ofO_bad, List.getElem?_cons_zero, List.getElem?_cons_succ, List.cons_append, List.nil_append, List.replicate, List.length_cons, List.length_nil, List.set_cons_zero, List.set_cons_succ, bindT_nm, bindT_tp, setAll, setO, Option.map_some, Option.map_none, List.map_cons, List.map_nil, wipeR, ite_tt, ite_ft, if_true, if_false, Nat.reduceAdd, Nat.reduceSub, Bool.false_eq_true, hf, Bool.not_false, c1, ix_t1, hf2, c2]
theorem l_out_loop {w : Nat} {R B : D} {lot : List D} {f : Tr} (h1 : lot[w]? = some f.enc) (h2 : f.t = .int w) : ∀ (es : List Tr) (acc : List D) (a b c : C), acc.length + es.length ≤ 1000 → (∀ e ∈ es, e.fair w) →
    ∃ a' b' c', forL (fun x ρ' => mb (ofO (bindT (.tp [5, 6, 7]) x ρ')) fun ρ2 => evSs G_37 fuel s__law_left_out_b1 ρ2) (es.map Tr.enc) [.val R, .val (.int w), .val (.list lot), .val B, .own acc, a, b, c] =
      ret (.nx [.val R, .val (.int w), .val (.list lot), .val B, .own (acc ++ (es.map (Tr.re w B)).map Tr.enc), a', b', c'])
  | [], acc, a, b, c, _, _ => ⟨a, b, c, by rw [List.map_nil, List.map_nil, List.map_nil, List.append_nil]; rfl⟩
  | e :: rest, acc, a, b, c, hl, hf => by
    rw [List.length_cons] at hl
    have st := l_out_step (R := R) (B := B) (acc := acc) (e := e) (by omega) (hf e List.mem_cons_self) h1 h2
    obtain ⟨a', b', c', z⟩ := l_out_loop (R := R) (B := B) h1 h2 rest (acc ++ [(e.re w B).enc]) (.val (.tuple e.w)) (.val e.t) (.val e.g) (by rw [List.length_append, List.length_singleton]; omega) fun q hq => hf q (List.mem_cons_of_mem _ hq)
    refine ⟨a', b', c', ?_⟩
    rw [List.map_cons, forL]
    have u : e.enc = .tuple [.tuple e.w, e.t, e.g] := rfl
    rw [u]
    simp -implicitDefEqProofs only [evSs, evS, evE, evAnd, evOr, evL, evA, evO, evC, evI, froz, thaw_nil, thaw, behind_nil, behind_int, behind_bool, behind_str, behind_none, behind_tup, behind_lst, isFeed, asB, asI, isNone_none, isNone_bool, isNone_int, isNone_str, isNone_tup, isNone_lst, mb_ret, mb_bad, mb_mb, ofO_ret, ofO_bad, List.getElem?_cons_zero, List.getElem?_cons_succ, List.cons_append, List.nil_append, List.replicate, List.length_cons, List.length_nil, List.set_cons_zero, List.set_cons_succ, bindT_nm, bindT_tp, setAll, setO, Option.map_some, Option.map_none, List.map_cons, List.map_nil, wipeR, ite_tt, ite_ft, if_true, if_false, Nat.reduceAdd, Nat.reduceSub, Bool.false_eq_true, st]
    rw [z, List.append_assoc]
    rfl
theorem l_left_out {rows : List Row} {w : Nat} (hw : w < rows.length) (hn : rows.length ≤ 900) (h : ∀ q ∈ rows, ∀ l, q.line = some l → l ≤ rows.length) :
    f__law_left_out [.val (encRows rows), .val (.int w)] = ret (.list ((takeOut rows w).map Row.enc)) := by
  have c1 : rngOk (rows.length : Int) = true := decide_eq_true (by omega)
  have c2 := l_tagged (rows := rows) (by omega) h
  have c3 : lenOk rows.length = true := lenOk_of (by omega)
  have c4 : lenOk (rows.length + 1) = true := lenOk_of (by omega)
  have c5 : lenOk (w + (rows.length - (w + 1))) = true := lenOk_of (by omega)
  have c6 : ixD (.list (rngL 0 rows.length ++ [.str "behind"])) (.int ((w + 1 : Nat) : Int)) = some (goalD rows.length (some (w + 1))) := rng_at (by omega)
  rw [trs_enc] at c2
  obtain ⟨f, f1, f2⟩ := trs_get (γ := goalD rows.length) (i := 0) hw
  rw [Nat.zero_add] at f2
  have f3 : ((trs (goalD rows.length) 0 rows).map Tr.enc)[w]? = some f.enc := by
    rw [List.getElem?_map, f1]
    rfl
  have fair : ∀ e ∈ (trs (goalD rows.length) 0 rows).take w ++ (trs (goalD rows.length) 0 rows).drop (w + 1), e.fair w := fun e he => by
    have hm : e ∈ trs (goalD rows.length) 0 rows := by
      rcases List.mem_append.mp he with he | he
      · exact List.mem_of_mem_take he
      · exact List.mem_of_mem_drop he
    obtain ⟨q, q1, q2, q3, j, q4⟩ := trs_mem hm
    have e0 : e = ⟨e.w, e.t, e.g⟩ := rfl
    rw [e0, q3]
    cases hl : q.line with
    | none => exact .inl ⟨rfl, rfl⟩
    | some l => exact fair_goal
  have len : ((trs (goalD rows.length) 0 rows).take w ++ (trs (goalD rows.length) 0 rows).drop (w + 1)).length ≤ 1000 := by
    rw [List.length_append, List.length_take, List.length_drop, trs_len]
    omega
  obtain ⟨a', b', c', z⟩ := l_out_loop (R := encRows rows) (B := goalD rows.length (some (w + 1))) f3 f2 ((trs (goalD rows.length) 0 rows).take w ++ (trs (goalD rows.length) 0 rows).drop (w + 1)) [] .emp .emp .emp (by rw [List.length_nil]; omega) fair
  have fold : List.take w ((trs (goalD rows.length) 0 rows).map Tr.enc) ++ List.drop (w + 1) ((trs (goalD rows.length) 0 rows).map Tr.enc) = ((trs (goalD rows.length) 0 rows).take w ++ (trs (goalD rows.length) 0 rows).drop (w + 1)).map Tr.enc := by
    rw [List.map_append, List.map_take, List.map_drop]
  have fin := left_out_end hw hn h
  rw [← trs_re w rows.length rows 0 hw, ← List.map_take, ← List.map_drop, ← List.map_append] at fin
  unfold encRows at z
  unfold f__law_left_out evF s__law_left_out encRows
  simp -implicitDefEqProofs only [evSs, evS, evE, evAnd, evOr, evL, evA, evO, evC, evI, froz, thaw_nil, thaw, behind_nil, behind_int, behind_bool, behind_str, behind_none, behind_tup, behind_lst, isFeed, asB, asI, isNone_none, isNone_bool, isNone_int, isNone_str, isNone_tup, isNone_lst, mb_ret, mb_bad, mb_mb, ofO_ret, ofO_bad, List.getElem?_cons_zero, List.getElem?_cons_succ, List.cons_append, List.nil_append, List.replicate, List.length_cons, List.length_nil, List.set_cons_zero, List.set_cons_succ, bindT_nm, bindT_tp, setAll, setO, Option.map_some, Option.map_none, List.map_cons, List.map_nil, wipeR, ite_tt, ite_ft, if_true, if_false, Nat.reduceAdd, Nat.reduceSub, Bool.false_eq_true, bi_lst_t, bi_len_t, List.length_map, c1, Int.toNat_natCast, at_37__law_tagged_2, c2, itemsOf]
  rw [compL_of (g := fun e : Tr => e.t) fun e _ => by
    unfold Tr.enc
    simp -implicitDefEqProofs only [evSs, evS, evE, evAnd, evOr, evL, evA, evO, evC, evI, froz, thaw_nil, thaw, behind_nil, behind_int, behind_bool, behind_str, behind_none, behind_tup, behind_lst, isFeed, asB, asI, isNone_none, isNone_bool, isNone_int, isNone_str, isNone_tup, isNone_lst, mb_ret, mb_bad, mb_mb, ofO_ret, ofO_bad, List.getElem?_cons_zero, List.getElem?_cons_succ, List.cons_append, List.nil_append, List.replicate, List.length_cons, List.length_nil, List.set_cons_zero, List.set_cons_succ, bindT_nm, bindT_tp, setAll, setO, Option.map_some, Option.map_none, List.map_cons, List.map_nil, wipeR, ite_tt, ite_ft, if_true, if_false, Nat.reduceAdd, Nat.reduceSub, Bool.false_eq_true]]
  rw [trs_t, nc0]
  simp -implicitDefEqProofs only [evSs, evS, evE, evAnd, evOr, evL, evA, evO, evC, evI, froz, thaw_nil, thaw, behind_nil, behind_int, behind_bool, behind_str, behind_none, behind_tup, behind_lst, isFeed, asB, asI, isNone_none, isNone_bool, isNone_int, isNone_str, isNone_tup, isNone_lst, mb_ret, mb_bad, mb_mb, ofO_ret, ofO_bad, List.getElem?_cons_zero, List.getElem?_cons_succ, List.cons_append, List.nil_append, List.replicate, List.length_cons, List.length_nil, List.set_cons_zero, List.set_cons_succ, bindT_nm, bindT_tp, setAll, setO, Option.map_some, Option.map_none, List.map_cons, List.map_nil, wipeR, ite_tt, ite_ft, if_true, if_false, Nat.reduceAdd, Nat.reduceSub, Bool.false_eq_true, rngL_len, c3, bop_add_l, c4, bop_add_int, cast_succ, c6, sl_lst_to, sl_lst_from, List.length_take, List.length_drop, List.length_map, trs_len, Nat.min_eq_left (Nat.le_of_lt hw), c5, fold, itemsOf]
  rw [z]
  simp -implicitDefEqProofs only [evSs, evS, evE, evAnd, evOr, evL, evA, evO, evC, evI, froz, thaw_nil, thaw, behind_nil, behind_int, behind_bool, behind_str, behind_none, behind_tup, behind_lst, isFeed, asB, asI, isNone_none, isNone_bool, isNone_int, isNone_str, isNone_tup, isNone_lst, mb_ret, mb_bad, mb_mb, ofO_ret, ofO_bad, List.getElem?_cons_zero, List.getElem?_cons_succ, List.cons_append, List.nil_append, List.replicate, List.length_cons, List.length_nil, List.set_cons_zero, List.set_cons_succ, bindT_nm, bindT_tp, setAll, setO, Option.map_some, Option.map_none, List.map_cons, List.map_nil, wipeR, ite_tt, ite_ft, if_true, if_false, Nat.reduceAdd, Nat.reduceSub, Bool.false_eq_true, List.contains_cons, List.contains_nil, Nat.reduceBEq, Bool.or_false, at_37__law_untagged_1, fin]
end Qv.K5

namespace Qv.K5
open PySem Tx
/-! ### draws -/
def below (m : Nat) (d : D) : Prop := ∃ k : Nat, d = .int k ∧ k < m
theorem mb_fg {α β : Type} (g : Fd → α) (f : α → M β) (s : Fd) : mb (fun s => some (g s, s)) f s = f (g s) s := rfl
theorem mb_fs {α β : Type} (a : α) (g : Fd → Option Fd) (f : α → M β) (s s' : Fd) (h : g s = some s') : mb (fun s => (g s).map fun s' => (a, s')) f s = f a s' := by
  unfold mb
  simp only [h, Option.map_some]
theorem mb_st {α β : Type} (a : α) (g : Fd → Fd) (f : α → M β) (s : Fd) : mb (fun s => some (a, g s)) f s = f a (g s) := rfl
theorem mod_below (i : Int) {m : Nat} (h : 0 < m) : below m (.int (i % (m : Int))) := by
  refine ⟨(i % (m : Int)).toNat, ?_, ?_⟩
  · rw [Int.toNat_of_nonneg (Int.emod_nonneg _ (by omega))]
  · have := Int.emod_lt_of_pos i (show (0 : Int) < (m : Int) by omega)
    have := Int.emod_nonneg i (show (m : Int) ≠ 0 by omega)
    omega
theorem bop_mod {i j : Int} (h : 0 < j) : bop .mod (.int i) (.int j) = some (.int (i % j)) := by
  show (if decide (0 < j) = true then _ else _) = _
  rw [decide_eq_true h]
  rfl
theorem bop_fdiv {i j : Int} (h : 0 < j ∧ j < 1073741824) : bop .fdiv (.int i) (.int j) = some (.int (i / j)) := by
  show (if decide (0 < j ∧ j < 1073741824) = true then _ else _) = _
  rw [decide_eq_true h]
  rfl
theorem bop_mul_l {i j : Int} (h : -(2 ^ 64) < i ∧ i < 2 ^ 64) : bop .mul (.int i) (.int j) = some (.int (i * j)) := by
  show (if (decide (-(2 ^ 64) < i ∧ i < 2 ^ 64) || decide (-(2 ^ 64) < j ∧ j < 2 ^ 64)) = true then _ else _) = _
  rw [decide_eq_true h]
  rfl
theorem eqv_list (xs ys : List D) : PyData.eqv (.list xs) (.list ys) = PyData.eqvAll xs ys := by
  rw [PyData.eqv]
theorem canLay_ints : ∀ ns : List Int, PyData.canLayAll0 (ns.map .int) = true
  | [] => rfl
  | n :: r => by
    rw [List.map_cons]
    show (PyData.canLay0 (.int n) && PyData.canLayAll0 (r.map .int)) = true
    rw [canLay_ints r]
    rfl
theorem depth_ints : ∀ ns : List Int, PyData.depthAll (ns.map .int) = 0
  | [] => rfl
  | n :: r => by
    rw [List.map_cons, PyData.depthAll, depth_ints r]
    rfl
theorem shaped_ints (ns : List Int) : SeqAt.shaped (.list (ns.map .int)) = true := by
  show (PyData.canLayAll0 (ns.map .int) && decide (PyData.depth (.list (ns.map .int)) ≤ 64)) = true
  rw [canLay_ints, PyData.depth, depth_ints]
  rfl
theorem ne_nil (ns : List Int) : cop .ne (.list (ns.map .int)) (.list []) = some (!ns.isEmpty) := by
  have h2 : SeqAt.shaped (.list []) = true := by kernel_rfl
  show ((if (SeqAt.shaped (.list (ns.map .int)) && SeqAt.shaped (.list [])) = true then some (PyData.eqv (.list (ns.map .int)) (.list [])) else none).map (!·)) = _
  rw [shaped_ints, h2, eqv_list]
  cases ns with
  | nil =>
    rw [List.map_nil, PyData.eqvAll]
    rfl
  | cons n r =>
    rw [List.map_cons, PyData.eqvAll]
    rfl
theorem p_1 : ∃ h : Int, bop .pow (.int 10) (.int 18) = some (.int h) := ⟨10 ^ 18, by kernel_rfl⟩
theorem p_2 (n : Int) (h : 0 < n ∧ n < 2 ^ 63) : ∃ f : Int → Int, (∀ i : Int, bop .mod (.int i) (.int n) = some (.int (f i))) ∧ ∀ i j : Int, bop .mul (.int (f i)) (.int j) = some (.int (f i * j)) :=
  ⟨fun i => i % n, fun i => bop_mod h.1, fun i j => bop_mul_l (by
    have h1 := Int.emod_nonneg i (show n ≠ 0 by omega)
    have h2 := Int.emod_lt_of_pos i h.1
    show -(2 ^ 64) < i % n ∧ i % n < 2 ^ 64
    omega)⟩
theorem p_3 (n : Int) (h : 0 < n ∧ n < 2 ^ 63) : ∃ f : Int → Int, ∀ i : Int, bop .mul (.int n) (.int i) = some (.int (f i)) := ⟨fun i => n * i, fun i => bop_mul_l (by omega)⟩
theorem p_4 : ∃ f : Int → Int, ∀ i : Int, bop .fdiv (.int i) (.int 32) = some (.int (f i)) := ⟨fun i => i / 32, fun i => bop_fdiv (by omega)⟩
theorem l_draw {m : Nat} (h0 : 0 < m) (h1 : m < 1073741824) : Tot (f__law_draw [.feed, .val (.int m)]) (below m) := by
  intro s
  have m1 : ∀ i : Int, bop .mod (.int i) (.int m) = some (.int (i % m)) := fun i => bop_mod (by omega)
  have m2 : ∀ i : Int, bop .fdiv (.int i) (.int m) = some (.int (i / m)) := fun i => bop_fdiv (by omega)
  unfold f__law_draw evF s__law_draw
  simp -implicitDefEqProofs only [evSs, evS, evE, evAnd, evOr, evL, evA, evO, evC, evI, froz, thaw_nil, thaw, behind_nil, behind_int, behind_bool, behind_str, behind_none, behind_tup, behind_lst, isFeed, asB, asI, isNone_none, isNone_bool, isNone_int, isNone_str, isNone_tup, isNone_lst, mb_ret, mb_bad, mb_mb, ofO_ret, ofO_bad, List.getElem?_cons_zero, List.getElem?_cons_succ, List.cons_append, List.nil_append, List.replicate, List.length_cons, List.length_nil, List.set_cons_zero, List.set_cons_succ, bindT_nm, bindT_tp, setAll, setO, Option.map_some, Option.map_none, List.map_cons, List.map_nil, wipeR, ite_tt, ite_ft, if_true, if_false, Nat.reduceAdd, Nat.reduceSub, Bool.false_eq_true, mb_fg, mb_st, fget, fset, bop_add_int, cop_gt_int, bi_int_i, m1, m2]
  cases hl : decide ((0 : Int) < s.left) with
  | true =>
    simp -implicitDefEqProofs only [evSs, evS, evE, evAnd, evOr, evL, evA, evO, evC, evI, froz, thaw_nil, thaw, behind_nil, behind_int, behind_bool, behind_str, behind_none, behind_tup, behind_lst, isFeed, asB, asI, isNone_none, isNone_bool, isNone_int, isNone_str, isNone_tup, isNone_lst, mb_ret, mb_bad, mb_mb, ofO_ret, ofO_bad, List.getElem?_cons_zero, List.getElem?_cons_succ, List.cons_append, List.nil_append, List.replicate, List.length_cons, List.length_nil, List.set_cons_zero, List.set_cons_succ, bindT_nm, bindT_tp, setAll, setO, Option.map_some, Option.map_none, List.map_cons, List.map_nil, wipeR, ite_tt, ite_ft, if_true, if_false, Nat.reduceAdd, Nat.reduceSub, Bool.false_eq_true, mb_fg, mb_st, fget, fset, bop_add_int, cop_gt_int, bi_int_i, m1, m2]
    exact ⟨_, _, rfl, mod_below _ h0⟩
  | false =>
    have c0 : s.cells.isEmpty = true ∨ (s.cells.isEmpty = false ∧ ∃ (c : Int) (k : Nat), bop .mod (.int s.spot) (.int ((s.cells.length : Nat) : Int)) = some (.int k) ∧ ixD (.list (s.cells.map .int)) (.int k) = some (.int c)) := by
      cases hc : s.cells with
      | nil => exact .inl rfl
      | cons x r =>
        obtain ⟨k, hk, hk2⟩ := mod_below s.spot (m := (x :: r).length) (by rw [List.length_cons]; omega)
        have hg : ((x :: r).map PyData.int)[k]? = some (.int ((x :: r)[k])) := by
          rw [List.getElem?_map, List.getElem?_eq_getElem hk2]
          rfl
        refine .inr ⟨rfl, (x :: r)[k], k, ?_, ix_l hg⟩
        rw [bop_mod (by rw [List.length_cons]; omega), hk]
    obtain ⟨H, p1⟩ := p_1
    obtain ⟨f1, q1, _⟩ := p_2 1999999973 (by omega)
    obtain ⟨f2, q2, r4⟩ := p_2 2147483579 (by omega)
    obtain ⟨f3, q3, r5⟩ := p_2 2147483563 (by omega)
    obtain ⟨f4, q4, _⟩ := p_2 2147483549 (by omega)
    obtain ⟨f5, q5⟩ := p_4
    obtain ⟨g1, r1⟩ := p_3 94319 (by omega)
    obtain ⟨g2, r2⟩ := p_3 15550971 (by omega)
    obtain ⟨g3, r3⟩ := p_3 771 (by omega)
    simp -implicitDefEqProofs only [evSs, evS, evE, evAnd, evOr, evL, evA, evO, evC, evI, froz, thaw_nil, thaw, behind_nil, behind_int, behind_bool, behind_str, behind_none, behind_tup, behind_lst, isFeed, asB, asI, isNone_none, isNone_bool, isNone_int, isNone_str, isNone_tup, isNone_lst, mb_ret, mb_bad, mb_mb, ofO_ret, ofO_bad, List.getElem?_cons_zero, List.getElem?_cons_succ, List.cons_append, List.nil_append, List.replicate, List.length_cons, List.length_nil, List.set_cons_zero, List.set_cons_succ, bindT_nm, bindT_tp, setAll, setO, Option.map_some, Option.map_none, List.map_cons, List.map_nil, wipeR, ite_tt, ite_ft, if_true, if_false, Nat.reduceAdd, Nat.reduceSub, Bool.false_eq_true, mb_fg, mb_st, fget, fset, bop_add_int, cop_gt_int, bi_int_i, m1, m2, ne_nil]
    rcases c0 with e0 | ⟨e0, c, k, e1, e2⟩
    · simp -implicitDefEqProofs only [evSs, evS, evE, evAnd, evOr, evL, evA, evO, evC, evI, froz, thaw_nil, thaw, behind_nil, behind_int, behind_bool, behind_str, behind_none, behind_tup, behind_lst, isFeed, asB, asI, isNone_none, isNone_bool, isNone_int, isNone_str, isNone_tup, isNone_lst, mb_ret, mb_bad, mb_mb, ofO_ret, ofO_bad, List.getElem?_cons_zero, List.getElem?_cons_succ, List.cons_append, List.nil_append, List.replicate, List.length_cons, List.length_nil, List.set_cons_zero, List.set_cons_succ, bindT_nm, bindT_tp, setAll, setO, Option.map_some, Option.map_none, List.map_cons, List.map_nil, wipeR, ite_tt, ite_ft, if_true, if_false, Nat.reduceAdd, Nat.reduceSub, Bool.false_eq_true, e0, Bool.not_true, p1, cop_ge_int]
      cases h18 : decide (H ≤ 6755) with
      | true =>
        simp -implicitDefEqProofs only [evSs, evS, evE, evAnd, evOr, evL, evA, evO, evC, evI, froz, thaw_nil, thaw, behind_nil, behind_int, behind_bool, behind_str, behind_none, behind_tup, behind_lst, isFeed, asB, asI, isNone_none, isNone_bool, isNone_int, isNone_str, isNone_tup, isNone_lst, mb_ret, mb_bad, mb_mb, ofO_ret, ofO_bad, List.getElem?_cons_zero, List.getElem?_cons_succ, List.cons_append, List.nil_append, List.replicate, List.length_cons, List.length_nil, List.set_cons_zero, List.set_cons_succ, bindT_nm, bindT_tp, setAll, setO, Option.map_some, Option.map_none, List.map_cons, List.map_nil, wipeR, ite_tt, ite_ft, if_true, if_false, Nat.reduceAdd, Nat.reduceSub, Bool.false_eq_true, bi_len_l, cop_lt_int]
        cases hs : decide (s.spot < (((s.cells.map PyData.int).length : Nat) : Int)) with
        | true =>
          simp -implicitDefEqProofs only [evSs, evS, evE, evAnd, evOr, evL, evA, evO, evC, evI, froz, thaw_nil, thaw, behind_nil, behind_int, behind_bool, behind_str, behind_none, behind_tup, behind_lst, isFeed, asB, asI, isNone_none, isNone_bool, isNone_int, isNone_str, isNone_tup, isNone_lst, mb_ret, mb_bad, mb_mb, ofO_ret, ofO_bad, List.getElem?_cons_zero, List.getElem?_cons_succ, List.cons_append, List.nil_append, List.replicate, List.length_cons, List.length_nil, List.set_cons_zero, List.set_cons_succ, bindT_nm, bindT_tp, setAll, setO, Option.map_some, Option.map_none, List.map_cons, List.map_nil, wipeR, ite_tt, ite_ft, if_true, if_false, Nat.reduceAdd, Nat.reduceSub, Bool.false_eq_true, mb_fg, mb_st, fget, fset, bop_add_int, cop_gt_int, bi_int_i, m1, m2]
          exact ⟨_, _, rfl, mod_below _ h0⟩
        | false =>
          simp -implicitDefEqProofs only [evSs, evS, evE, evAnd, evOr, evL, evA, evO, evC, evI, froz, thaw_nil, thaw, behind_nil, behind_int, behind_bool, behind_str, behind_none, behind_tup, behind_lst, isFeed, asB, asI, isNone_none, isNone_bool, isNone_int, isNone_str, isNone_tup, isNone_lst, mb_ret, mb_bad, mb_mb, ofO_ret, ofO_bad, List.getElem?_cons_zero, List.getElem?_cons_succ, List.cons_append, List.nil_append, List.replicate, List.length_cons, List.length_nil, List.set_cons_zero, List.set_cons_succ, bindT_nm, bindT_tp, setAll, setO, Option.map_some, Option.map_none, List.map_cons, List.map_nil, wipeR, ite_tt, ite_ft, if_true, if_false, Nat.reduceAdd, Nat.reduceSub, Bool.false_eq_true, mb_fg, mb_st, fget, fset, bop_add_int, cop_gt_int, bi_int_i, m1, m2, q1, q2, q3, q4, q5, r1, r2, r3, r4, r5]
          exact ⟨_, _, rfl, mod_below _ h0⟩
      | false =>
        simp -implicitDefEqProofs only [evSs, evS, evE, evAnd, evOr, evL, evA, evO, evC, evI, froz, thaw_nil, thaw, behind_nil, behind_int, behind_bool, behind_str, behind_none, behind_tup, behind_lst, isFeed, asB, asI, isNone_none, isNone_bool, isNone_int, isNone_str, isNone_tup, isNone_lst, mb_ret, mb_bad, mb_mb, ofO_ret, ofO_bad, List.getElem?_cons_zero, List.getElem?_cons_succ, List.cons_append, List.nil_append, List.replicate, List.length_cons, List.length_nil, List.set_cons_zero, List.set_cons_succ, bindT_nm, bindT_tp, setAll, setO, Option.map_some, Option.map_none, List.map_cons, List.map_nil, wipeR, ite_tt, ite_ft, if_true, if_false, Nat.reduceAdd, Nat.reduceSub, Bool.false_eq_true, mb_fg, mb_st, fget, fset, bop_add_int, cop_gt_int, bi_int_i, m1, m2, q1, q2, q3, q4, q5, r1, r2, r3, r4, r5]
        exact ⟨_, _, rfl, mod_below _ h0⟩
    · simp -implicitDefEqProofs only [evSs, evS, evE, evAnd, evOr, evL, evA, evO, evC, evI, froz, thaw_nil, thaw, behind_nil, behind_int, behind_bool, behind_str, behind_none, behind_tup, behind_lst, isFeed, asB, asI, isNone_none, isNone_bool, isNone_int, isNone_str, isNone_tup, isNone_lst, mb_ret, mb_bad, mb_mb, ofO_ret, ofO_bad, List.getElem?_cons_zero, List.getElem?_cons_succ, List.cons_append, List.nil_append, List.replicate, List.length_cons, List.length_nil, List.set_cons_zero, List.set_cons_succ, bindT_nm, bindT_tp, setAll, setO, Option.map_some, Option.map_none, List.map_cons, List.map_nil, wipeR, ite_tt, ite_ft, if_true, if_false, Nat.reduceAdd, Nat.reduceSub, Bool.false_eq_true, e0, Bool.not_false, bi_len_l, List.length_map, e1, e2, p1, cop_ge_int]
      cases h18 : decide (H ≤ c) with
      | true =>
        simp -implicitDefEqProofs only [evSs, evS, evE, evAnd, evOr, evL, evA, evO, evC, evI, froz, thaw_nil, thaw, behind_nil, behind_int, behind_bool, behind_str, behind_none, behind_tup, behind_lst, isFeed, asB, asI, isNone_none, isNone_bool, isNone_int, isNone_str, isNone_tup, isNone_lst, mb_ret, mb_bad, mb_mb, ofO_ret, ofO_bad, List.getElem?_cons_zero, List.getElem?_cons_succ, List.cons_append, List.nil_append, List.replicate, List.length_cons, List.length_nil, List.set_cons_zero, List.set_cons_succ, bindT_nm, bindT_tp, setAll, setO, Option.map_some, Option.map_none, List.map_cons, List.map_nil, wipeR, ite_tt, ite_ft, if_true, if_false, Nat.reduceAdd, Nat.reduceSub, Bool.false_eq_true, bi_len_l, cop_lt_int]
        cases hs : decide (s.spot < ((s.cells.length : Nat) : Int)) with
        | true =>
          simp -implicitDefEqProofs only [evSs, evS, evE, evAnd, evOr, evL, evA, evO, evC, evI, froz, thaw_nil, thaw, behind_nil, behind_int, behind_bool, behind_str, behind_none, behind_tup, behind_lst, isFeed, asB, asI, isNone_none, isNone_bool, isNone_int, isNone_str, isNone_tup, isNone_lst, mb_ret, mb_bad, mb_mb, ofO_ret, ofO_bad, List.getElem?_cons_zero, List.getElem?_cons_succ, List.cons_append, List.nil_append, List.replicate, List.length_cons, List.length_nil, List.set_cons_zero, List.set_cons_succ, bindT_nm, bindT_tp, setAll, setO, Option.map_some, Option.map_none, List.map_cons, List.map_nil, wipeR, ite_tt, ite_ft, if_true, if_false, Nat.reduceAdd, Nat.reduceSub, Bool.false_eq_true, mb_fg, mb_st, fget, fset, bop_add_int, cop_gt_int, bi_int_i, m1, m2]
          exact ⟨_, _, rfl, mod_below _ h0⟩
        | false =>
          simp -implicitDefEqProofs only [evSs, evS, evE, evAnd, evOr, evL, evA, evO, evC, evI, froz, thaw_nil, thaw, behind_nil, behind_int, behind_bool, behind_str, behind_none, behind_tup, behind_lst, isFeed, asB, asI, isNone_none, isNone_bool, isNone_int, isNone_str, isNone_tup, isNone_lst, mb_ret, mb_bad, mb_mb, ofO_ret, ofO_bad, List.getElem?_cons_zero, List.getElem?_cons_succ, List.cons_append, List.nil_append, List.replicate, List.length_cons, List.length_nil, List.set_cons_zero, List.set_cons_succ, bindT_nm, bindT_tp, setAll, setO, Option.map_some, Option.map_none, List.map_cons, List.map_nil, wipeR, ite_tt, ite_ft, if_true, if_false, Nat.reduceAdd, Nat.reduceSub, Bool.false_eq_true, mb_fg, mb_st, fget, fset, bop_add_int, cop_gt_int, bi_int_i, m1, m2, q1, q2, q3, q4, q5, r1, r2, r3, r4, r5]
          exact ⟨_, _, rfl, mod_below _ h0⟩
      | false =>
        simp -implicitDefEqProofs only [evSs, evS, evE, evAnd, evOr, evL, evA, evO, evC, evI, froz, thaw_nil, thaw, behind_nil, behind_int, behind_bool, behind_str, behind_none, behind_tup, behind_lst, isFeed, asB, asI, isNone_none, isNone_bool, isNone_int, isNone_str, isNone_tup, isNone_lst, mb_ret, mb_bad, mb_mb, ofO_ret, ofO_bad, List.getElem?_cons_zero, List.getElem?_cons_succ, List.cons_append, List.nil_append, List.replicate, List.length_cons, List.length_nil, List.set_cons_zero, List.set_cons_succ, bindT_nm, bindT_tp, setAll, setO, Option.map_some, Option.map_none, List.map_cons, List.map_nil, wipeR, ite_tt, ite_ft, if_true, if_false, Nat.reduceAdd, Nat.reduceSub, Bool.false_eq_true, mb_fg, mb_st, fget, fset, bop_add_int, cop_gt_int, bi_int_i, m1, m2, q1, q2, q3, q4, q5, r1, r2, r3, r4, r5]
        exact ⟨_, _, rfl, mod_below _ h0⟩
end Qv.K5

namespace Qv.K5
open PySem Tx
theorem l_pick_l {xs : List D} (h0 : 0 < xs.length) (h1 : xs.length < 1000) : Tot (f__law_pick [.feed, .val (.list xs)]) fun d => d ∈ xs := by
  unfold f__law_pick evF s__law_pick
  simp -implicitDefEqProofs only [evSs, evS, evE, evAnd, evOr, evL, evA, evO, evC, evI, froz, thaw_nil, thaw, behind_nil, behind_int, behind_bool, behind_str, behind_none, behind_tup, behind_lst, isFeed, asB, asI, isNone_none, isNone_bool, isNone_int, isNone_str, isNone_tup, isNone_lst, mb_ret, mb_bad, mb_mb, ofO_ret, ofO_bad, List.getElem?_cons_zero, List.getElem?_cons_succ, List.cons_append, List.nil_append, List.replicate, List.length_cons, List.length_nil, List.set_cons_zero, List.set_cons_succ, bindT_nm, bindT_tp, setAll, setO, Option.map_some, Option.map_none, List.map_cons, List.map_nil, wipeR, ite_tt, ite_ft, if_true, if_false, Nat.reduceAdd, Nat.reduceSub, Bool.false_eq_true, bi_len_l, at_6__law_draw_2]
  refine tot_mb (l_draw h0 (by omega)) fun d hd => ?_
  obtain ⟨k, rfl, hk⟩ := hd
  have e := ix_l (List.getElem?_eq_getElem hk)
  simp -implicitDefEqProofs only [evSs, evS, evE, evAnd, evOr, evL, evA, evO, evC, evI, froz, thaw_nil, thaw, behind_nil, behind_int, behind_bool, behind_str, behind_none, behind_tup, behind_lst, isFeed, asB, asI, isNone_none, isNone_bool, isNone_int, isNone_str, isNone_tup, isNone_lst, mb_ret, mb_bad, mb_mb, ofO_ret, ofO_bad, List.getElem?_cons_zero, List.getElem?_cons_succ, List.cons_append, List.nil_append, List.replicate, List.length_cons, List.length_nil, List.set_cons_zero, List.set_cons_succ, bindT_nm, bindT_tp, setAll, setO, Option.map_some, Option.map_none, List.map_cons, List.map_nil, wipeR, ite_tt, ite_ft, if_true, if_false, Nat.reduceAdd, Nat.reduceSub, Bool.false_eq_true, e]
  exact tot_ret (List.getElem_mem hk)
theorem l_pick_t {xs : List D} (h0 : 0 < xs.length) (h1 : xs.length < 1000) : Tot (f__law_pick [.feed, .val (.tuple xs)]) fun d => d ∈ xs := by
  unfold f__law_pick evF s__law_pick
  simp -implicitDefEqProofs only [evSs, evS, evE, evAnd, evOr, evL, evA, evO, evC, evI, froz, thaw_nil, thaw, behind_nil, behind_int, behind_bool, behind_str, behind_none, behind_tup, behind_lst, isFeed, asB, asI, isNone_none, isNone_bool, isNone_int, isNone_str, isNone_tup, isNone_lst, mb_ret, mb_bad, mb_mb, ofO_ret, ofO_bad, List.getElem?_cons_zero, List.getElem?_cons_succ, List.cons_append, List.nil_append, List.replicate, List.length_cons, List.length_nil, List.set_cons_zero, List.set_cons_succ, bindT_nm, bindT_tp, setAll, setO, Option.map_some, Option.map_none, List.map_cons, List.map_nil, wipeR, ite_tt, ite_ft, if_true, if_false, Nat.reduceAdd, Nat.reduceSub, Bool.false_eq_true, bi_len_t, at_6__law_draw_2]
  refine tot_mb (l_draw h0 (by omega)) fun d hd => ?_
  obtain ⟨k, rfl, hk⟩ := hd
  have e := ix_t (List.getElem?_eq_getElem hk)
  simp -implicitDefEqProofs only [evSs, evS, evE, evAnd, evOr, evL, evA, evO, evC, evI, froz, thaw_nil, thaw, behind_nil, behind_int, behind_bool, behind_str, behind_none, behind_tup, behind_lst, isFeed, asB, asI, isNone_none, isNone_bool, isNone_int, isNone_str, isNone_tup, isNone_lst, mb_ret, mb_bad, mb_mb, ofO_ret, ofO_bad, List.getElem?_cons_zero, List.getElem?_cons_succ, List.cons_append, List.nil_append, List.replicate, List.length_cons, List.length_nil, List.set_cons_zero, List.set_cons_succ, bindT_nm, bindT_tp, setAll, setO, Option.map_some, Option.map_none, List.map_cons, List.map_nil, wipeR, ite_tt, ite_ft, if_true, if_false, Nat.reduceAdd, Nat.reduceSub, Bool.false_eq_true, e]
  exact tot_ret (List.getElem_mem hk)
def pools : List (List Str) := [["m", "n", "o", "p", "q"], ["a", "ab", "abc", "b", "ba"], ["start", "end", "stop", "call", "whole"], ["z", "zz", "zzzzzzza", "zzzzzzzz", "abcdefgh"], ["counted", "mute", "timed", "again", "keeps"], ["text", "nap", "mark", "flag", "tool"], ["stretch", "row", "bell", "told", "gone"]]
theorem l_pool : f__law_pool [] = ret (.list (pools.map fun l => .list (l.map .str))) := by
  unfold f__law_pool evF s__law_pool
  simp -implicitDefEqProofs only [evSs, evS, evE, evAnd, evOr, evL, evA, evO, evC, evI, froz, thaw_nil, thaw, behind_nil, behind_int, behind_bool, behind_str, behind_none, behind_tup, behind_lst, isFeed, asB, asI, isNone_none, isNone_bool, isNone_int, isNone_str, isNone_tup, isNone_lst, mb_ret, mb_bad, mb_mb, ofO_ret, ofO_bad, List.getElem?_cons_zero, List.getElem?_cons_succ, List.cons_append, List.nil_append, List.replicate, List.length_cons, List.length_nil, List.set_cons_zero, List.set_cons_succ, bindT_nm, bindT_tp, setAll, setO, Option.map_some, Option.map_none, List.map_cons, List.map_nil, wipeR, ite_tt, ite_ft, if_true, if_false, Nat.reduceAdd, Nat.reduceSub, Bool.false_eq_true, bop_add_l, lenOk, Nat.reduceLeDiff, decide_true, Nat.sub_zero]
  rfl
def labs (pool : List Str) (k m : Nat) (mark : Bool) : List Str := sortS (((pool.drop k ++ pool.take k).filter (fun x => !mark || !place x) ++ (["mx", "my", "mz"] : List Str)).take m)
def ascB : List Str → Bool
  | x :: y :: r => ltS x y && ascB (y :: r)
  | _ => true
theorem asc_of : ∀ {l : List Str}, ascB l = true → Asc l
  | [], _ => fun i x y h _ => nomatch h
  | [a], _ => fun i x y h1 h2 => nomatch h2
  | a :: b :: r, h => fun i x y h1 h2 => by
    obtain ⟨g1, g2⟩ := Bool.and_eq_true_iff.mp h
    cases i with
    | zero =>
      cases h1
      cases h2
      exact g1
    | succ i => exact asc_of g2 i x y h1 h2
def labOk (m : Nat) (mark : Bool) (l : List Str) : Bool := decide (l.length = m) && (l.all (fun x => nameOk x && (!mark || !place x)) && ascB l)
def labsAll : Bool := pools.all fun p => decide (p.length = 5) && (List.range 5).all fun k => (List.range 4).all fun m => [true, false].all fun b => labOk m b (labs p k m b)
theorem labs_all : labsAll = true := by kernel_rfl
theorem labs_ok {p : List Str} {k m : Nat} {b : Bool} (hp : p ∈ pools) (hk : k < 5) (hm : m < 4) : labOk m b (labs p k m b) = true := by
  have h := List.all_eq_true.mp labs_all p hp
  have h := (Bool.and_eq_true_iff.mp h).2
  have h := List.all_eq_true.mp h k (List.mem_range.mpr hk)
  have h := List.all_eq_true.mp h m (List.mem_range.mpr hm)
  exact List.all_eq_true.mp h b (by cases b <;> decide)
theorem pool_len {p : List Str} (hp : p ∈ pools) : p.length = 5 := of_decide_eq_true (Bool.and_eq_true_iff.mp (List.all_eq_true.mp labs_all p hp)).1
theorem strsOf_map : ∀ l : List Str, strsOf (l.map .str) = some l
  | [] => rfl
  | x :: r => by
    rw [List.map_cons]
    show (strsOf (r.map .str)).map (x :: ·) = _
    rw [strsOf_map r]
    rfl
theorem bi_sorted {l : List Str} (h : l.length < 64) : bi .sorted [.list (l.map .str)] = some (.list ((sortS l).map .str)) := by
  show (match strsOf (l.map .str) with
    | some zs => if decide (zs.length < 64) then some (PyData.list ((sortS zs).map .str)) else none
    | none => none) = _
  rw [strsOf_map]
  show (if decide (l.length < 64) = true then _ else _) = _
  rw [decide_eq_true h]
  rfl
/-- labels as drawn -/
structure Labs (m : Nat) (mark : Bool) (l : List Str) : Prop where
  len : l.length = m
  nm : ∀ x ∈ l, nameOk x = true
  pl : mark = true → ∀ x ∈ l, place x = false
  asc : Asc l
theorem l_labels {m : Nat} {mark : Bool} (hm : m < 4) : Tot (f__law_labels [.feed, .val (.int m), .val (.bool mark)]) fun d => ∃ l : List Str, d = .list (l.map .str) ∧ Labs m mark l := by
  have hp := l_pool
  unfold f__law_labels evF s__law_labels
  simp -implicitDefEqProofs only [evSs, evS, evE, evAnd, evOr, evL, evA, evO, evC, evI, froz, thaw_nil, thaw, behind_nil, behind_int, behind_bool, behind_str, behind_none, behind_tup, behind_lst, isFeed, asB, asI, isNone_none, isNone_bool, isNone_int, isNone_str, isNone_tup, isNone_lst, mb_ret, mb_bad, mb_mb, ofO_ret, ofO_bad, List.getElem?_cons_zero, List.getElem?_cons_succ, List.cons_append, List.nil_append, List.replicate, List.length_cons, List.length_nil, List.set_cons_zero, List.set_cons_succ, bindT_nm, bindT_tp, setAll, setO, Option.map_some, Option.map_none, List.map_cons, List.map_nil, wipeR, ite_tt, ite_ft, if_true, if_false, Nat.reduceAdd, Nat.reduceSub, Bool.false_eq_true, at_39__law_pool_0, at_39__law_pick_2, at_39__law_draw_2, hp]
  refine tot_mb (l_pick_l (xs := pools.map fun l => .list (l.map .str)) (by decide) (by decide)) fun d hd => ?_
  obtain ⟨p, hp, rfl⟩ := List.mem_map.mp hd
  refine tot_mb (l_draw (m := 5) (by omega) (by omega)) fun d hd => ?_
  obtain ⟨k, rfl, hk⟩ := hd
  have hl := pool_len hp
  have c1 : lenOk (p.length - k + min k p.length) = true := lenOk_of (by omega)
  have c2 : (List.drop k (p.map PyData.str)) ++ (List.take k (p.map PyData.str)) = (p.drop k ++ p.take k).map .str := by
    rw [List.map_append, List.map_drop, List.map_take]
  simp -implicitDefEqProofs only [evSs, evS, evE, evAnd, evOr, evL, evA, evO, evC, evI, froz, thaw_nil, thaw, behind_nil, behind_int, behind_bool, behind_str, behind_none, behind_tup, behind_lst, isFeed, asB, asI, isNone_none, isNone_bool, isNone_int, isNone_str, isNone_tup, isNone_lst, mb_ret, mb_bad, mb_mb, ofO_ret, ofO_bad, List.getElem?_cons_zero, List.getElem?_cons_succ, List.cons_append, List.nil_append, List.replicate, List.length_cons, List.length_nil, List.set_cons_zero, List.set_cons_succ, bindT_nm, bindT_tp, setAll, setO, Option.map_some, Option.map_none, List.map_cons, List.map_nil, wipeR, ite_tt, ite_ft, if_true, if_false, Nat.reduceAdd, Nat.reduceSub, Bool.false_eq_true, sl_lst_from, sl_lst_to, bop_add_l, List.length_drop, List.length_take, List.length_map, c1, c2, itemsOf]
  rw [compL_ofF (p := fun x : Str => !mark || !place x) (g := .str) fun x _ => by
    have ip := in_places x
    simp -implicitDefEqProofs only [evSs, evS, evE, evAnd, evOr, evL, evA, evO, evC, evI, froz, thaw_nil, thaw, behind_nil, behind_int, behind_bool, behind_str, behind_none, behind_tup, behind_lst, isFeed, asB, asI, isNone_none, isNone_bool, isNone_int, isNone_str, isNone_tup, isNone_lst, mb_ret, mb_bad, mb_mb, ofO_ret, ofO_bad, List.getElem?_cons_zero, List.getElem?_cons_succ, List.cons_append, List.nil_append, List.replicate, List.length_cons, List.length_nil, List.set_cons_zero, List.set_cons_succ, bindT_nm, bindT_tp, setAll, setO, Option.map_some, Option.map_none, List.map_cons, List.map_nil, wipeR, ite_tt, ite_ft, if_true, if_false, Nat.reduceAdd, Nat.reduceSub, Bool.false_eq_true, cop_nin, ip]
    cases mark with
    | false => simp -implicitDefEqProofs only [evSs, evS, evE, evAnd, evOr, evL, evA, evO, evC, evI, froz, thaw_nil, thaw, behind_nil, behind_int, behind_bool, behind_str, behind_none, behind_tup, behind_lst, isFeed, asB, asI, isNone_none, isNone_bool, isNone_int, isNone_str, isNone_tup, isNone_lst, mb_ret, mb_bad, mb_mb, ofO_ret, ofO_bad, List.getElem?_cons_zero, List.getElem?_cons_succ, List.cons_append, List.nil_append, List.replicate, List.length_cons, List.length_nil, List.set_cons_zero, List.set_cons_succ, bindT_nm, bindT_tp, setAll, setO, Option.map_some, Option.map_none, List.map_cons, List.map_nil, wipeR, ite_tt, ite_ft, if_true, if_false, Nat.reduceAdd, Nat.reduceSub, Bool.false_eq_true, Bool.not_false, Bool.true_or]
    | true =>
      simp -implicitDefEqProofs only [evSs, evS, evE, evAnd, evOr, evL, evA, evO, evC, evI, froz, thaw_nil, thaw, behind_nil, behind_int, behind_bool, behind_str, behind_none, behind_tup, behind_lst, isFeed, asB, asI, isNone_none, isNone_bool, isNone_int, isNone_str, isNone_tup, isNone_lst, mb_ret, mb_bad, mb_mb, ofO_ret, ofO_bad, List.getElem?_cons_zero, List.getElem?_cons_succ, List.cons_append, List.nil_append, List.replicate, List.length_cons, List.length_nil, List.set_cons_zero, List.set_cons_succ, bindT_nm, bindT_tp, setAll, setO, Option.map_some, Option.map_none, List.map_cons, List.map_nil, wipeR, ite_tt, ite_ft, if_true, if_false, Nat.reduceAdd, Nat.reduceSub, Bool.false_eq_true, Bool.not_true, Bool.false_or]
      cases place x <;> rfl]
  have c3 := List.length_filter_le (fun x : Str => !mark || !place x) (p.drop k ++ p.take k)
  have c4 : (p.drop k ++ p.take k).length = 5 := by
    rw [List.length_append, List.length_drop, List.length_take]
    omega
  have c5 : lenOk ((p.drop k ++ p.take k).filter fun x => !mark || !place x).length = true := lenOk_of (by omega)
  have c6 : lenOk (((p.drop k ++ p.take k).filter fun x => !mark || !place x).length + 3) = true := lenOk_of (by omega)
  have c7 : List.take m (((p.drop k ++ p.take k).filter fun x => !mark || !place x).map PyData.str ++ [.str "mx", .str "my", .str "mz"]) = ((((p.drop k ++ p.take k).filter fun x => !mark || !place x) ++ (["mx", "my", "mz"] : List Str)).take m).map .str := by
    rw [List.map_take, List.map_append]
    rfl
  have c8 := bi_sorted (l := (((p.drop k ++ p.take k).filter fun x => !mark || !place x) ++ (["mx", "my", "mz"] : List Str)).take m) (by rw [List.length_take]; omega)
  have c9 := labs_ok (b := mark) hp hk hm
  simp -implicitDefEqProofs only [evSs, evS, evE, evAnd, evOr, evL, evA, evO, evC, evI, froz, thaw_nil, thaw, behind_nil, behind_int, behind_bool, behind_str, behind_none, behind_tup, behind_lst, isFeed, asB, asI, isNone_none, isNone_bool, isNone_int, isNone_str, isNone_tup, isNone_lst, mb_ret, mb_bad, mb_mb, ofO_ret, ofO_bad, List.getElem?_cons_zero, List.getElem?_cons_succ, List.cons_append, List.nil_append, List.replicate, List.length_cons, List.length_nil, List.set_cons_zero, List.set_cons_succ, bindT_nm, bindT_tp, setAll, setO, Option.map_some, Option.map_none, List.map_cons, List.map_nil, wipeR, ite_tt, ite_ft, if_true, if_false, Nat.reduceAdd, Nat.reduceSub, Bool.false_eq_true, List.length_map, c5, bop_add_l, c6, sl_lst_to, c7, c8]
  obtain ⟨z1, z2⟩ := and2 c9
  obtain ⟨z2, z3⟩ := and2 z2
  refine tot_ret ⟨_, rfl, of_decide_eq_true z1, fun x hx => (and2 (List.all_eq_true.mp z2 x hx)).1, fun e x hx => ?_, asc_of z3⟩
  have := (and2 (List.all_eq_true.mp z2 x hx)).2
  rw [e] at this
  cases hh : place x with
  | false => rfl
  | true =>
    rw [hh] at this
    cases this
end Qv.K5

namespace Qv.K5
open PySem Tx
theorem forL_tot0 {f : D → Rho → M Fl} {xs : List D} {I : List D → Rho → Prop} (step : ∀ pre x post ρ, pre ++ x :: post = xs → I pre ρ → Tot (f x ρ) fun r => ∃ ρ', r = .nx ρ' ∧ I (pre ++ [x]) ρ') : ∀ (post pre : List D) (ρ : Rho), pre ++ post = xs → I pre ρ → Tot (forL f post ρ) fun r => ∃ ρ', r = .nx ρ' ∧ I xs ρ'
  | [], pre, ρ, e, h => by
    rw [List.append_nil] at e
    subst e
    exact tot_ret ⟨ρ, rfl, h⟩
  | x :: post, pre, ρ, e, h => by
    unfold forL
    refine tot_mb (step pre x post ρ e h) fun r hr => ?_
    obtain ⟨ρ', rfl, h'⟩ := hr
    exact forL_tot0 step post (pre ++ [x]) ρ' (by rw [List.append_assoc]; exact e) h'
theorem forL_tot {f : D → Rho → M Fl} {xs : List D} {ρ : Rho} {I : List D → Rho → Prop} (h0 : I [] ρ) (step : ∀ pre x post ρ, pre ++ x :: post = xs → I pre ρ → Tot (f x ρ) fun r => ∃ ρ', r = .nx ρ' ∧ I (pre ++ [x]) ρ') : Tot (forL f xs ρ) fun r => ∃ ρ', r = .nx ρ' ∧ I xs ρ' := forL_tot0 step xs [] ρ rfl h0
theorem one_add (k : Nat) : (1 : Int) + (k : Int) = ((1 + k : Nat) : Int) := by omega
theorem str_inj : ∀ {l m : List Str}, l.map PyData.str = m.map PyData.str → l = m
  | [], [], _ => rfl
  | x :: r, y :: t, h => by
    rw [List.map_cons, List.map_cons] at h
    obtain ⟨h1, h2⟩ := List.cons.inj h
    rw [PyData.str.inj h1, str_inj h2]
theorem firsts {l : List (Str × Str)} {m : List Str} (h : m.map PyData.str = l.map fun q => PyData.str q.1) : l.map (·.1) = m := by
  refine (str_inj ?_).symm
  rw [h, List.map_map]
  rfl
theorem ascP_of {l : List (Str × Str)} (h : Asc (l.map (·.1))) : AscP l := fun i x y h1 h2 => h i x.1 y.1 (by rw [List.getElem?_map, h1]; rfl) (by rw [List.getElem?_map, h2]; rfl)
/-- the named parts of a program as drawn -/
structure Kn (p : Prog) : Prop where
  stNe : p.st ≠ []
  st : ∀ q ∈ p.st, nameOk q.1 = true ∧ isKind q.2 = true
  stA : AscP p.st
  ms : ∀ q ∈ p.ms, nameOk q.1 = true ∧ place q.1 = false ∧ q.2 ∈ p.st.map (·.1)
  msA : AscP p.ms
  fl : ∀ x ∈ p.fl, nameOk x = true
  flA : Asc p.fl
  to : ∀ x ∈ p.to, nameOk x = true
  toA : Asc p.to
  stL : p.st.length ≤ 3
  msL : p.ms.length ≤ 3
  flL : p.fl.length ≤ 3
  toL : p.to.length ≤ 3
def Prog.kn (p : Prog) : List D := [.tuple (p.st.map pr), .tuple (p.ms.map pr), .tuple (p.fl.map .str), .tuple (p.to.map .str)]
theorem mid {α : Type} {pre post xs : List α} {x : α} (e : pre ++ x :: post = xs) : x ∈ xs ∧ pre.length < xs.length := by
  subst e
  refine ⟨List.mem_append.mpr (.inr List.mem_cons_self), ?_⟩
  rw [List.length_append, List.length_cons]
  omega
theorem snoc_map {α : Type} (f : α → D) (l : List α) (x : α) : l.map f ++ [f x] = (l ++ [x]).map f := by
  rw [List.map_append]
  rfl
/-- a slot that is no owned list -/
def NO (c : C) : Prop := (∀ fs k r, froz fs k (c :: r) = c :: froz fs (k + 1) r) ∧ ∀ fs k r, thaw fs k (c :: r) = c :: thaw fs (k + 1) r
theorem no_emp : NO .emp := ⟨fun _ _ _ => rfl, fun _ _ _ => rfl⟩
theorem no_val (d : D) : NO (.val d) := ⟨fun _ _ _ => rfl, fun _ _ _ => rfl⟩
theorem known1 {ls : List Str} (hl : ls.length ≤ 100) : Tot (forL (fun x ρ' => evSs G_40 fuel s__law_known_b2 (ρ'.set 3 (.val x))) (ls.map .str) [.feed, .own [], .own [], .emp, .emp, .emp]) fun r => ∃ (l : List (Str × Str)) (c : C), r = .nx [.feed, .own (l.map pr), .own [], c, .emp, .emp] ∧ NO c ∧ l.map (·.1) = ls ∧ ∀ q ∈ l, isKind q.2 = true := by
  refine tot_imp (forL_tot (I := fun pre ρ => ∃ (l : List (Str × Str)) (c : C), ρ = [.feed, .own (l.map pr), .own [], c, .emp, .emp] ∧ NO c ∧ pre = l.map (fun q => PyData.str q.1) ∧ ∀ q ∈ l, isKind q.2 = true) ⟨[], .emp, rfl, no_emp, rfl, fun q h => nomatch h⟩ fun pre x post ρ e hI => ?_) fun r hr => ?_
  · obtain ⟨l, c, rfl, hc, rfl, hk⟩ := hI
    obtain ⟨m1, m2⟩ := mid e
    obtain ⟨s, hs, rfl⟩ := List.mem_map.mp m1
    rw [List.length_map, List.length_map] at m2
    unfold s__law_known_b2
    simp -implicitDefEqProofs only [evSs, evS, evE, evAnd, evOr, evL, evA, evO, evC, evI, froz, thaw_nil, thaw, behind_nil, behind_int, behind_bool, behind_str, behind_none, behind_tup, behind_lst, isFeed, asB, asI, isNone_none, isNone_bool, isNone_int, isNone_str, isNone_tup, isNone_lst, mb_ret, mb_bad, mb_mb, ofO_ret, ofO_bad, List.getElem?_cons_zero, List.getElem?_cons_succ, List.cons_append, List.nil_append, List.replicate, List.length_cons, List.length_nil, List.set_cons_zero, List.set_cons_succ, bindT_nm, bindT_tp, setAll, setO, Option.map_some, Option.map_none, List.map_cons, List.map_nil, wipeR, ite_tt, ite_ft, if_true, if_false, Nat.reduceAdd, Nat.reduceSub, Bool.false_eq_true, at_40__law_pick_2]
    refine tot_mb (l_pick_l (xs := [.str "counted", .str "mute", .str "timed"]) (by decide) (by decide)) fun d hd => ?_
    have hd2 : ∃ z : Str, d = .str z ∧ isKind z = true := by
      simp only [List.mem_cons, List.not_mem_nil, or_false] at hd
      rcases hd with rfl | rfl | rfl <;> exact ⟨_, rfl, by unfold isKind; simp only [ofS_inj, String.reduceEq, decide_true, decide_false, Bool.true_or, Bool.or_true]⟩
    obtain ⟨z, rfl, hz⟩ := hd2
    have c1 : lenOk (l.map pr).length = true := by
      rw [List.length_map]
      exact lenOk_of (by omega)
    simp -implicitDefEqProofs only [evSs, evS, evE, evAnd, evOr, evL, evA, evO, evC, evI, froz, thaw_nil, thaw, behind_nil, behind_int, behind_bool, behind_str, behind_none, behind_tup, behind_lst, isFeed, asB, asI, isNone_none, isNone_bool, isNone_int, isNone_str, isNone_tup, isNone_lst, mb_ret, mb_bad, mb_mb, ofO_ret, ofO_bad, List.getElem?_cons_zero, List.getElem?_cons_succ, List.cons_append, List.nil_append, List.replicate, List.length_cons, List.length_nil, List.set_cons_zero, List.set_cons_succ, bindT_nm, bindT_tp, setAll, setO, Option.map_some, Option.map_none, List.map_cons, List.map_nil, wipeR, ite_tt, ite_ft, if_true, if_false, Nat.reduceAdd, Nat.reduceSub, Bool.false_eq_true, c1]
    refine tot_ret ⟨_, rfl, l ++ [(s, z)], .val (.str s), ?_, no_val _, ?_, ?_⟩
    · rw [← snoc_map]
      rfl
    · rw [← snoc_map]
    · intro q hq
      rcases List.mem_append.mp hq with hq | hq
      · exact hk q hq
      · rw [List.mem_singleton.mp hq]
        exact hz
  · obtain ⟨ρ', rfl, l, c, rfl, h0, h1, h2⟩ := hr
    exact ⟨l, c, rfl, h0, firsts h1, h2⟩
theorem known2 {ls : List Str} {st : List (Str × Str)} {c0 : C} (n0 : NO c0) (h0 : 0 < st.length) (h1 : st.length < 1000) (hl : ls.length ≤ 100) : Tot (forL (fun x ρ' => evSs G_40 fuel s__law_known_b1 (ρ'.set 3 (.val x))) (ls.map .str) [.feed, .own (st.map pr), .own [], c0, .emp, .emp]) fun r => ∃ (l : List (Str × Str)) (c X : C), r = .nx [.feed, X, .own (l.map pr), c, .emp, .emp] ∧ NO c ∧ (X = .own (st.map pr) ∨ X = .val (.list (st.map pr))) ∧ l.map (·.1) = ls ∧ ∀ q ∈ l, q.2 ∈ st.map (·.1) := by
  refine tot_imp (forL_tot (I := fun pre ρ => ∃ (l : List (Str × Str)) (c X : C), ρ = [.feed, X, .own (l.map pr), c, .emp, .emp] ∧ NO c ∧ (X = .own (st.map pr) ∨ X = .val (.list (st.map pr))) ∧ pre = l.map (fun q => PyData.str q.1) ∧ ∀ q ∈ l, q.2 ∈ st.map (·.1)) ⟨[], c0, _, rfl, n0, .inl rfl, rfl, fun q h => nomatch h⟩ fun pre x post ρ e hI => ?_) fun r hr => ?_
  · obtain ⟨l, c, X, rfl, hc, hX, rfl, hk⟩ := hI
    obtain ⟨m1, m2⟩ := mid e
    obtain ⟨s, hs, rfl⟩ := List.mem_map.mp m1
    rw [List.length_map, List.length_map] at m2
    have c1 : lenOk (l.map pr).length = true := by
      rw [List.length_map]
      exact lenOk_of (by omega)
    unfold s__law_known_b1
    rcases hX with rfl | rfl
    · simp -implicitDefEqProofs only [evSs, evS, evE, evAnd, evOr, evL, evA, evO, evC, evI, froz, thaw_nil, thaw, behind_nil, behind_int, behind_bool, behind_str, behind_none, behind_tup, behind_lst, isFeed, asB, asI, isNone_none, isNone_bool, isNone_int, isNone_str, isNone_tup, isNone_lst, mb_ret, mb_bad, mb_mb, ofO_ret, ofO_bad, List.getElem?_cons_zero, List.getElem?_cons_succ, List.cons_append, List.nil_append, List.replicate, List.length_cons, List.length_nil, List.set_cons_zero, List.set_cons_succ, bindT_nm, bindT_tp, setAll, setO, Option.map_some, Option.map_none, List.map_cons, List.map_nil, wipeR, ite_tt, ite_ft, if_true, if_false, Nat.reduceAdd, Nat.reduceSub, Bool.false_eq_true, at_40__law_pick_2, List.contains_cons, List.contains_nil, Nat.reduceBEq, Bool.or_false]
      refine tot_mb (l_pick_l (xs := st.map pr) (by rw [List.length_map]; exact h0) (by rw [List.length_map]; exact h1)) fun d hd => ?_
      obtain ⟨q, hq, rfl⟩ := List.mem_map.mp hd
      have e0 : ixD (pr q) (.int 0) = some (.str q.1) := ix_t0 _ _
      simp -implicitDefEqProofs only [evSs, evS, evE, evAnd, evOr, evL, evA, evO, evC, evI, froz, thaw_nil, thaw, behind_nil, behind_int, behind_bool, behind_str, behind_none, behind_tup, behind_lst, isFeed, asB, asI, isNone_none, isNone_bool, isNone_int, isNone_str, isNone_tup, isNone_lst, mb_ret, mb_bad, mb_mb, ofO_ret, ofO_bad, List.getElem?_cons_zero, List.getElem?_cons_succ, List.cons_append, List.nil_append, List.replicate, List.length_cons, List.length_nil, List.set_cons_zero, List.set_cons_succ, bindT_nm, bindT_tp, setAll, setO, Option.map_some, Option.map_none, List.map_cons, List.map_nil, wipeR, ite_tt, ite_ft, if_true, if_false, Nat.reduceAdd, Nat.reduceSub, Bool.false_eq_true, e0, c1, List.contains_cons, List.contains_nil, Nat.reduceBEq, Bool.or_false]
      refine tot_ret ⟨_, rfl, l ++ [(s, q.1)], .val (.str s), _, ?_, no_val _, .inr rfl, ?_, ?_⟩
      · rw [← snoc_map]
        rfl
      · rw [← snoc_map]
      · intro q' hq'
        rcases List.mem_append.mp hq' with hq' | hq'
        · exact hk q' hq'
        · rw [List.mem_singleton.mp hq']
          exact List.mem_map.mpr ⟨q, hq, rfl⟩
    · simp -implicitDefEqProofs only [evSs, evS, evE, evAnd, evOr, evL, evA, evO, evC, evI, froz, thaw_nil, thaw, behind_nil, behind_int, behind_bool, behind_str, behind_none, behind_tup, behind_lst, isFeed, asB, asI, isNone_none, isNone_bool, isNone_int, isNone_str, isNone_tup, isNone_lst, mb_ret, mb_bad, mb_mb, ofO_ret, ofO_bad, List.getElem?_cons_zero, List.getElem?_cons_succ, List.cons_append, List.nil_append, List.replicate, List.length_cons, List.length_nil, List.set_cons_zero, List.set_cons_succ, bindT_nm, bindT_tp, setAll, setO, Option.map_some, Option.map_none, List.map_cons, List.map_nil, wipeR, ite_tt, ite_ft, if_true, if_false, Nat.reduceAdd, Nat.reduceSub, Bool.false_eq_true, at_40__law_pick_2, List.contains_cons, List.contains_nil, Nat.reduceBEq, Bool.or_false]
      refine tot_mb (l_pick_l (xs := st.map pr) (by rw [List.length_map]; exact h0) (by rw [List.length_map]; exact h1)) fun d hd => ?_
      obtain ⟨q, hq, rfl⟩ := List.mem_map.mp hd
      have e0 : ixD (pr q) (.int 0) = some (.str q.1) := ix_t0 _ _
      simp -implicitDefEqProofs only [evSs, evS, evE, evAnd, evOr, evL, evA, evO, evC, evI, froz, thaw_nil, thaw, behind_nil, behind_int, behind_bool, behind_str, behind_none, behind_tup, behind_lst, isFeed, asB, asI, isNone_none, isNone_bool, isNone_int, isNone_str, isNone_tup, isNone_lst, mb_ret, mb_bad, mb_mb, ofO_ret, ofO_bad, List.getElem?_cons_zero, List.getElem?_cons_succ, List.cons_append, List.nil_append, List.replicate, List.length_cons, List.length_nil, List.set_cons_zero, List.set_cons_succ, bindT_nm, bindT_tp, setAll, setO, Option.map_some, Option.map_none, List.map_cons, List.map_nil, wipeR, ite_tt, ite_ft, if_true, if_false, Nat.reduceAdd, Nat.reduceSub, Bool.false_eq_true, e0, c1, List.contains_cons, List.contains_nil, Nat.reduceBEq, Bool.or_false]
      refine tot_ret ⟨_, rfl, l ++ [(s, q.1)], .val (.str s), _, ?_, no_val _, .inr rfl, ?_, ?_⟩
      · rw [← snoc_map]
        rfl
      · rw [← snoc_map]
      · intro q' hq'
        rcases List.mem_append.mp hq' with hq' | hq'
        · exact hk q' hq'
        · rw [List.mem_singleton.mp hq']
          exact List.mem_map.mpr ⟨q, hq, rfl⟩
  · obtain ⟨ρ', rfl, l, c, X, rfl, h0, h1, h2, h3⟩ := hr
    exact ⟨l, c, X, rfl, h0, h1, firsts h2, h3⟩
theorem l_known : Tot (f__law_known [.feed]) fun d => ∃ p : Prog, d = .tuple p.kn ∧ Kn p := by
  unfold f__law_known evF s__law_known
  simp -implicitDefEqProofs only [evSs, evS, evE, evAnd, evOr, evL, evA, evO, evC, evI, froz, thaw_nil, thaw, behind_nil, behind_int, behind_bool, behind_str, behind_none, behind_tup, behind_lst, isFeed, asB, asI, isNone_none, isNone_bool, isNone_int, isNone_str, isNone_tup, isNone_lst, mb_ret, mb_bad, mb_mb, ofO_ret, ofO_bad, List.getElem?_cons_zero, List.getElem?_cons_succ, List.cons_append, List.nil_append, List.replicate, List.length_cons, List.length_nil, List.set_cons_zero, List.set_cons_succ, bindT_nm, bindT_tp, setAll, setO, Option.map_some, Option.map_none, List.map_cons, List.map_nil, wipeR, ite_tt, ite_ft, if_true, if_false, Nat.reduceAdd, Nat.reduceSub, Bool.false_eq_true, at_40__law_draw_2, at_40__law_labels_3]
  refine tot_mb (l_draw (m := 3) (by omega) (by omega)) fun d hd => ?_
  obtain ⟨k1, rfl, hk1⟩ := hd
  simp -implicitDefEqProofs only [evSs, evS, evE, evAnd, evOr, evL, evA, evO, evC, evI, froz, thaw_nil, thaw, behind_nil, behind_int, behind_bool, behind_str, behind_none, behind_tup, behind_lst, isFeed, asB, asI, isNone_none, isNone_bool, isNone_int, isNone_str, isNone_tup, isNone_lst, mb_ret, mb_bad, mb_mb, ofO_ret, ofO_bad, List.getElem?_cons_zero, List.getElem?_cons_succ, List.cons_append, List.nil_append, List.replicate, List.length_cons, List.length_nil, List.set_cons_zero, List.set_cons_succ, bindT_nm, bindT_tp, setAll, setO, Option.map_some, Option.map_none, List.map_cons, List.map_nil, wipeR, ite_tt, ite_ft, if_true, if_false, Nat.reduceAdd, Nat.reduceSub, Bool.false_eq_true, bop_add_int, one_add]
  refine tot_mb (l_labels (m := 1 + k1) (by omega)) fun d hd => ?_
  obtain ⟨l1, rfl, g1⟩ := hd
  simp -implicitDefEqProofs only [evSs, evS, evE, evAnd, evOr, evL, evA, evO, evC, evI, froz, thaw_nil, thaw, behind_nil, behind_int, behind_bool, behind_str, behind_none, behind_tup, behind_lst, isFeed, asB, asI, isNone_none, isNone_bool, isNone_int, isNone_str, isNone_tup, isNone_lst, mb_ret, mb_bad, mb_mb, ofO_ret, ofO_bad, List.getElem?_cons_zero, List.getElem?_cons_succ, List.cons_append, List.nil_append, List.replicate, List.length_cons, List.length_nil, List.set_cons_zero, List.set_cons_succ, bindT_nm, bindT_tp, setAll, setO, Option.map_some, Option.map_none, List.map_cons, List.map_nil, wipeR, ite_tt, ite_ft, if_true, if_false, Nat.reduceAdd, Nat.reduceSub, Bool.false_eq_true, itemsOf]
  refine tot_mb (known1 (by rw [g1.len]; omega)) fun r hr => ?_
  obtain ⟨st, c, rfl, n1, e1, z1⟩ := hr
  have sl : st.length = 1 + k1 := by rw [← g1.len, ← e1, List.length_map]
  try simp -implicitDefEqProofs only [evSs, evS, evE, evAnd, evOr, evL, evA, evO, evC, evI, froz, thaw_nil, thaw, behind_nil, behind_int, behind_bool, behind_str, behind_none, behind_tup, behind_lst, isFeed, asB, asI, isNone_none, isNone_bool, isNone_int, isNone_str, isNone_tup, isNone_lst, mb_ret, mb_bad, mb_mb, ofO_ret, ofO_bad, List.getElem?_cons_zero, List.getElem?_cons_succ, List.cons_append, List.nil_append, List.replicate, List.length_cons, List.length_nil, List.set_cons_zero, List.set_cons_succ, bindT_nm, bindT_tp, setAll, setO, Option.map_some, Option.map_none, List.map_cons, List.map_nil, wipeR, ite_tt, ite_ft, if_true, if_false, Nat.reduceAdd, Nat.reduceSub, Bool.false_eq_true, n1.1, n1.2]
  refine tot_mb (l_draw (m := 4) (by omega) (by omega)) fun d hd => ?_
  obtain ⟨k2, rfl, hk2⟩ := hd
  try simp -implicitDefEqProofs only [evSs, evS, evE, evAnd, evOr, evL, evA, evO, evC, evI, froz, thaw_nil, thaw, behind_nil, behind_int, behind_bool, behind_str, behind_none, behind_tup, behind_lst, isFeed, asB, asI, isNone_none, isNone_bool, isNone_int, isNone_str, isNone_tup, isNone_lst, mb_ret, mb_bad, mb_mb, ofO_ret, ofO_bad, List.getElem?_cons_zero, List.getElem?_cons_succ, List.cons_append, List.nil_append, List.replicate, List.length_cons, List.length_nil, List.set_cons_zero, List.set_cons_succ, bindT_nm, bindT_tp, setAll, setO, Option.map_some, Option.map_none, List.map_cons, List.map_nil, wipeR, ite_tt, ite_ft, if_true, if_false, Nat.reduceAdd, Nat.reduceSub, Bool.false_eq_true, n1.1, n1.2]
  refine tot_mb (l_labels (m := k2) (by omega)) fun d hd => ?_
  obtain ⟨l2, rfl, g2⟩ := hd
  simp -implicitDefEqProofs only [evSs, evS, evE, evAnd, evOr, evL, evA, evO, evC, evI, froz, thaw_nil, thaw, behind_nil, behind_int, behind_bool, behind_str, behind_none, behind_tup, behind_lst, isFeed, asB, asI, isNone_none, isNone_bool, isNone_int, isNone_str, isNone_tup, isNone_lst, mb_ret, mb_bad, mb_mb, ofO_ret, ofO_bad, List.getElem?_cons_zero, List.getElem?_cons_succ, List.cons_append, List.nil_append, List.replicate, List.length_cons, List.length_nil, List.set_cons_zero, List.set_cons_succ, bindT_nm, bindT_tp, setAll, setO, Option.map_some, Option.map_none, List.map_cons, List.map_nil, wipeR, ite_tt, ite_ft, if_true, if_false, Nat.reduceAdd, Nat.reduceSub, Bool.false_eq_true, n1.1, n1.2, itemsOf]
  refine tot_mb (known2 n1 (by omega) (by omega) (by rw [g2.len]; omega)) fun r hr => ?_
  obtain ⟨ms, c, X, rfl, n2, hX, e2, z2⟩ := hr
  have ml : ms.length = k2 := by rw [← g2.len, ← e2, List.length_map]
  rcases hX with rfl | rfl
  · try simp -implicitDefEqProofs only [evSs, evS, evE, evAnd, evOr, evL, evA, evO, evC, evI, froz, thaw_nil, thaw, behind_nil, behind_int, behind_bool, behind_str, behind_none, behind_tup, behind_lst, isFeed, asB, asI, isNone_none, isNone_bool, isNone_int, isNone_str, isNone_tup, isNone_lst, mb_ret, mb_bad, mb_mb, ofO_ret, ofO_bad, List.getElem?_cons_zero, List.getElem?_cons_succ, List.cons_append, List.nil_append, List.replicate, List.length_cons, List.length_nil, List.set_cons_zero, List.set_cons_succ, bindT_nm, bindT_tp, setAll, setO, Option.map_some, Option.map_none, List.map_cons, List.map_nil, wipeR, ite_tt, ite_ft, if_true, if_false, Nat.reduceAdd, Nat.reduceSub, Bool.false_eq_true, n2.1, n2.2]
    refine tot_mb (l_draw (m := 3) (by omega) (by omega)) fun d hd => ?_
    obtain ⟨k3, rfl, hk3⟩ := hd
    try simp -implicitDefEqProofs only [evSs, evS, evE, evAnd, evOr, evL, evA, evO, evC, evI, froz, thaw_nil, thaw, behind_nil, behind_int, behind_bool, behind_str, behind_none, behind_tup, behind_lst, isFeed, asB, asI, isNone_none, isNone_bool, isNone_int, isNone_str, isNone_tup, isNone_lst, mb_ret, mb_bad, mb_mb, ofO_ret, ofO_bad, List.getElem?_cons_zero, List.getElem?_cons_succ, List.cons_append, List.nil_append, List.replicate, List.length_cons, List.length_nil, List.set_cons_zero, List.set_cons_succ, bindT_nm, bindT_tp, setAll, setO, Option.map_some, Option.map_none, List.map_cons, List.map_nil, wipeR, ite_tt, ite_ft, if_true, if_false, Nat.reduceAdd, Nat.reduceSub, Bool.false_eq_true, n2.1, n2.2]
    refine tot_mb (l_labels (m := k3) (by omega)) fun d hd => ?_
    obtain ⟨l3, rfl, g3⟩ := hd
    try simp -implicitDefEqProofs only [evSs, evS, evE, evAnd, evOr, evL, evA, evO, evC, evI, froz, thaw_nil, thaw, behind_nil, behind_int, behind_bool, behind_str, behind_none, behind_tup, behind_lst, isFeed, asB, asI, isNone_none, isNone_bool, isNone_int, isNone_str, isNone_tup, isNone_lst, mb_ret, mb_bad, mb_mb, ofO_ret, ofO_bad, List.getElem?_cons_zero, List.getElem?_cons_succ, List.cons_append, List.nil_append, List.replicate, List.length_cons, List.length_nil, List.set_cons_zero, List.set_cons_succ, bindT_nm, bindT_tp, setAll, setO, Option.map_some, Option.map_none, List.map_cons, List.map_nil, wipeR, ite_tt, ite_ft, if_true, if_false, Nat.reduceAdd, Nat.reduceSub, Bool.false_eq_true, n2.1, n2.2]
    refine tot_mb (l_draw (m := 3) (by omega) (by omega)) fun d hd => ?_
    obtain ⟨k4, rfl, hk4⟩ := hd
    try simp -implicitDefEqProofs only [evSs, evS, evE, evAnd, evOr, evL, evA, evO, evC, evI, froz, thaw_nil, thaw, behind_nil, behind_int, behind_bool, behind_str, behind_none, behind_tup, behind_lst, isFeed, asB, asI, isNone_none, isNone_bool, isNone_int, isNone_str, isNone_tup, isNone_lst, mb_ret, mb_bad, mb_mb, ofO_ret, ofO_bad, List.getElem?_cons_zero, List.getElem?_cons_succ, List.cons_append, List.nil_append, List.replicate, List.length_cons, List.length_nil, List.set_cons_zero, List.set_cons_succ, bindT_nm, bindT_tp, setAll, setO, Option.map_some, Option.map_none, List.map_cons, List.map_nil, wipeR, ite_tt, ite_ft, if_true, if_false, Nat.reduceAdd, Nat.reduceSub, Bool.false_eq_true, n2.1, n2.2]
    refine tot_mb (l_labels (m := k4) (by omega)) fun d hd => ?_
    obtain ⟨l4, rfl, g4⟩ := hd
    simp -implicitDefEqProofs only [evSs, evS, evE, evAnd, evOr, evL, evA, evO, evC, evI, froz, thaw_nil, thaw, behind_nil, behind_int, behind_bool, behind_str, behind_none, behind_tup, behind_lst, isFeed, asB, asI, isNone_none, isNone_bool, isNone_int, isNone_str, isNone_tup, isNone_lst, mb_ret, mb_bad, mb_mb, ofO_ret, ofO_bad, List.getElem?_cons_zero, List.getElem?_cons_succ, List.cons_append, List.nil_append, List.replicate, List.length_cons, List.length_nil, List.set_cons_zero, List.set_cons_succ, bindT_nm, bindT_tp, setAll, setO, Option.map_some, Option.map_none, List.map_cons, List.map_nil, wipeR, ite_tt, ite_ft, if_true, if_false, Nat.reduceAdd, Nat.reduceSub, Bool.false_eq_true, n2.1, List.contains_cons, List.contains_nil, Nat.reduceBEq, Bool.or_false, Bool.false_or, bi_tup_l]
    refine tot_ret ?_
    exact ⟨⟨st, ms, l3, l4, [], []⟩, rfl, by
      refine ⟨fun e => by subst e; rw [List.length_nil] at sl; omega, fun q hq => ⟨g1.nm q.1 (e1 ▸ List.mem_map.mpr ⟨q, hq, rfl⟩), z1 q hq⟩, ascP_of (e1 ▸ g1.asc), fun q hq => ⟨g2.nm q.1 (e2 ▸ List.mem_map.mpr ⟨q, hq, rfl⟩), g2.pl rfl q.1 (e2 ▸ List.mem_map.mpr ⟨q, hq, rfl⟩), z2 q hq⟩, ascP_of (e2 ▸ g2.asc), g3.nm, g3.asc, g4.nm, g4.asc, ?_, ?_, ?_, ?_⟩
      · show st.length ≤ 3
        omega
      · show ms.length ≤ 3
        omega
      · show l3.length ≤ 3
        rw [g3.len]
        omega
      · show l4.length ≤ 3
        rw [g4.len]
        omega⟩
  · try simp -implicitDefEqProofs only [evSs, evS, evE, evAnd, evOr, evL, evA, evO, evC, evI, froz, thaw_nil, thaw, behind_nil, behind_int, behind_bool, behind_str, behind_none, behind_tup, behind_lst, isFeed, asB, asI, isNone_none, isNone_bool, isNone_int, isNone_str, isNone_tup, isNone_lst, mb_ret, mb_bad, mb_mb, ofO_ret, ofO_bad, List.getElem?_cons_zero, List.getElem?_cons_succ, List.cons_append, List.nil_append, List.replicate, List.length_cons, List.length_nil, List.set_cons_zero, List.set_cons_succ, bindT_nm, bindT_tp, setAll, setO, Option.map_some, Option.map_none, List.map_cons, List.map_nil, wipeR, ite_tt, ite_ft, if_true, if_false, Nat.reduceAdd, Nat.reduceSub, Bool.false_eq_true, n2.1, n2.2]
    refine tot_mb (l_draw (m := 3) (by omega) (by omega)) fun d hd => ?_
    obtain ⟨k3, rfl, hk3⟩ := hd
    try simp -implicitDefEqProofs only [evSs, evS, evE, evAnd, evOr, evL, evA, evO, evC, evI, froz, thaw_nil, thaw, behind_nil, behind_int, behind_bool, behind_str, behind_none, behind_tup, behind_lst, isFeed, asB, asI, isNone_none, isNone_bool, isNone_int, isNone_str, isNone_tup, isNone_lst, mb_ret, mb_bad, mb_mb, ofO_ret, ofO_bad, List.getElem?_cons_zero, List.getElem?_cons_succ, List.cons_append, List.nil_append, List.replicate, List.length_cons, List.length_nil, List.set_cons_zero, List.set_cons_succ, bindT_nm, bindT_tp, setAll, setO, Option.map_some, Option.map_none, List.map_cons, List.map_nil, wipeR, ite_tt, ite_ft, if_true, if_false, Nat.reduceAdd, Nat.reduceSub, Bool.false_eq_true, n2.1, n2.2]
    refine tot_mb (l_labels (m := k3) (by omega)) fun d hd => ?_
    obtain ⟨l3, rfl, g3⟩ := hd
    try simp -implicitDefEqProofs only [evSs, evS, evE, evAnd, evOr, evL, evA, evO, evC, evI, froz, thaw_nil, thaw, behind_nil, behind_int, behind_bool, behind_str, behind_none, behind_tup, behind_lst, isFeed, asB, asI, isNone_none, isNone_bool, isNone_int, isNone_str, isNone_tup, isNone_lst, mb_ret, mb_bad, mb_mb, ofO_ret, ofO_bad, List.getElem?_cons_zero, List.getElem?_cons_succ, List.cons_append, List.nil_append, List.replicate, List.length_cons, List.length_nil, List.set_cons_zero, List.set_cons_succ, bindT_nm, bindT_tp, setAll, setO, Option.map_some, Option.map_none, List.map_cons, List.map_nil, wipeR, ite_tt, ite_ft, if_true, if_false, Nat.reduceAdd, Nat.reduceSub, Bool.false_eq_true, n2.1, n2.2]
    refine tot_mb (l_draw (m := 3) (by omega) (by omega)) fun d hd => ?_
    obtain ⟨k4, rfl, hk4⟩ := hd
    try simp -implicitDefEqProofs only [evSs, evS, evE, evAnd, evOr, evL, evA, evO, evC, evI, froz, thaw_nil, thaw, behind_nil, behind_int, behind_bool, behind_str, behind_none, behind_tup, behind_lst, isFeed, asB, asI, isNone_none, isNone_bool, isNone_int, isNone_str, isNone_tup, isNone_lst, mb_ret, mb_bad, mb_mb, ofO_ret, ofO_bad, List.getElem?_cons_zero, List.getElem?_cons_succ, List.cons_append, List.nil_append, List.replicate, List.length_cons, List.length_nil, List.set_cons_zero, List.set_cons_succ, bindT_nm, bindT_tp, setAll, setO, Option.map_some, Option.map_none, List.map_cons, List.map_nil, wipeR, ite_tt, ite_ft, if_true, if_false, Nat.reduceAdd, Nat.reduceSub, Bool.false_eq_true, n2.1, n2.2]
    refine tot_mb (l_labels (m := k4) (by omega)) fun d hd => ?_
    obtain ⟨l4, rfl, g4⟩ := hd
    simp -implicitDefEqProofs only [evSs, evS, evE, evAnd, evOr, evL, evA, evO, evC, evI, froz, thaw_nil, thaw, behind_nil, behind_int, behind_bool, behind_str, behind_none, behind_tup, behind_lst, isFeed, asB, asI, isNone_none, isNone_bool, isNone_int, isNone_str, isNone_tup, isNone_lst, mb_ret, mb_bad, mb_mb, ofO_ret, ofO_bad, List.getElem?_cons_zero, List.getElem?_cons_succ, List.cons_append, List.nil_append, List.replicate, List.length_cons, List.length_nil, List.set_cons_zero, List.set_cons_succ, bindT_nm, bindT_tp, setAll, setO, Option.map_some, Option.map_none, List.map_cons, List.map_nil, wipeR, ite_tt, ite_ft, if_true, if_false, Nat.reduceAdd, Nat.reduceSub, Bool.false_eq_true, n2.1, List.contains_cons, List.contains_nil, Nat.reduceBEq, Bool.or_false, Bool.false_or, bi_tup_l]
    refine tot_ret ?_
    exact ⟨⟨st, ms, l3, l4, [], []⟩, rfl, by
      refine ⟨fun e => by subst e; rw [List.length_nil] at sl; omega, fun q hq => ⟨g1.nm q.1 (e1 ▸ List.mem_map.mpr ⟨q, hq, rfl⟩), z1 q hq⟩, ascP_of (e1 ▸ g1.asc), fun q hq => ⟨g2.nm q.1 (e2 ▸ List.mem_map.mpr ⟨q, hq, rfl⟩), g2.pl rfl q.1 (e2 ▸ List.mem_map.mpr ⟨q, hq, rfl⟩), z2 q hq⟩, ascP_of (e2 ▸ g2.asc), g3.nm, g3.asc, g4.nm, g4.asc, ?_, ?_, ?_, ?_⟩
      · show st.length ≤ 3
        omega
      · show ms.length ≤ 3
        omega
      · show l3.length ≤ 3
        rw [g3.len]
        omega
      · show l4.length ≤ 3
        rw [g4.len]
        omega⟩
end Qv.K5

namespace Qv.K5
open PySem Tx
def rowTail : Ss := (.cons (.iff (.cmp .isin (.v 5) (.tup (.cons (.c (.str "end")) (.cons (.c (.str "go")) .nil)))) [] (.cons (.ret (.ite (.cmp .eq (.v 5) (.c (.str "end"))) (.tup (.cons (.c (.str "end")) .nil)) (.tup (.cons (.c (.str "go")) (.cons (.v 6) .nil)))) []) .nil) .nil) (.cons (.iff (.cmp .eq (.v 5) (.c (.str "told"))) [] (.cons (.ret (.tup (.cons (.v 5) (.cons (.call "_law_pick" (.cons (.v 0) (.cons (.lst (.cons (.c (.str "whole")) (.cons (.c (.str "part")) (.cons (.c (.str "broken")) .nil)))) .nil))) (.cons (.v 6) .nil)))) []) .nil) .nil) (.cons (.iff (.cmp .isin (.v 5) (.tup (.cons (.c (.str "raise")) (.cons (.c (.str "lower")) (.cons (.c (.str "ask")) (.cons (.c (.str "wait")) .nil)))))) [] (.cons (.ret (.bin .add (.tup (.cons (.v 5) (.cons (.call "_law_pick" (.cons (.v 0) (.cons (.ix (.v 1) (.c (.int (2)))) .nil))) .nil))) (.ite (.cmp .eq (.v 5) (.c (.str "ask"))) (.tup (.cons (.v 6) .nil)) (.tup .nil))) []) .nil) .nil) (.cons (.iff (.cmp .eq (.v 5) (.c (.str "use"))) [] (.cons (.ret (.tup (.cons (.v 5) (.cons (.call "_law_pick" (.cons (.v 0) (.cons (.ix (.v 1) (.c (.int (3)))) .nil))) .nil))) []) .nil) .nil) (.cons (.asg (.tp [7, 8]) (.call "_law_pick" (.cons (.v 0) (.cons (.ix (.v 1) (.c (.int (1)))) .nil))) []) (.cons (.iff (.cmp .eq (.v 5) (.c (.str "set"))) [] (.cons (.asc false 9 (.v 10) (.tp [10, 11]) (.dat (.ix (.v 1) (.c (.int (1))))) (.som (.and (.cons (.cmp .eq (.v 11) (.v 8)) (.cons (.cmp .ne (.v 10) (.v 7)) .nil)))) [("_law_one", 10), ("_law_far", 11)] []) (.cons (.ret (.tup (.cons (.v 5) (.cons (.v 7) (.cons (.call "_law_pick" (.cons (.v 0) (.cons (.bin .add (.lst (.cons (.c (.str "start")) (.cons (.c (.str "end")) (.cons (.c (.str "stop")) .nil)))) (.v 9)) .nil))) .nil)))) []) .nil)) .nil) (.cons (.ret (.bin .add (.tup (.cons (.v 5) (.cons (.v 7) .nil))) (.ite (.cmp .eq (.v 5) (.c (.str "gone"))) (.tup (.cons (.v 6) .nil)) (.tup .nil))) []) .nil)))))))
def rowHead : Ss := (.cons (.asg (.nm 4) (.bin .add (.lst (.cons (.c (.str "told")) (.cons (.c (.str "go")) .nil))) (.ite (.cmp .ne (.ix (.v 1) (.c (.int (1)))) (.tup .nil)) (.lst (.cons (.c (.str "call")) (.cons (.c (.str "set")) (.cons (.c (.str "gone")) (.cons (.c (.str "call")) .nil))))) (.lst .nil))) []) (.cons (.asg (.nm 4) (.bin .add (.v 4) (.ite (.cmp .ne (.ix (.v 1) (.c (.int (2)))) (.tup .nil)) (.lst (.cons (.c (.str "raise")) (.cons (.c (.str "lower")) (.cons (.c (.str "ask")) .nil)))) (.lst .nil))) []) (.cons (.asg (.nm 4) (.bin .add (.bin .add (.v 4) (.ite (.cmp .ne (.ix (.v 1) (.c (.int (3)))) (.tup .nil)) (.lst (.cons (.c (.str "use")) .nil)) (.lst .nil))) (.ite (.v 3) (.lst (.cons (.c (.str "end")) .nil)) (.lst .nil))) []) (.cons (.asg (.nm 4) (.bin .add (.v 4) (.ite (.and (.cons (.v 3) (.cons (.cmp .ne (.ix (.v 1) (.c (.int (2)))) (.tup .nil)) .nil))) (.lst (.cons (.c (.str "wait")) .nil)) (.lst .nil))) []) (.cons (.par [5, 6] (.cons (.call "_law_pick" (.cons (.v 0) (.cons (.v 4) .nil))) (.cons (.call "_law_draw" (.cons (.v 0) (.cons (.bin .add (.v 2) (.c (.int (1)))) .nil))) .nil)) [false, false] []) rowTail)))))
theorem row_split : s__law_row = rowHead := rfl
/-! ### names are in order, so a mark is found -/
theorem ltS_trans {x y z : Str} (h1 : ltS x y = true) (h2 : ltS y z = true) : ltS x z = true := decide_eq_true (List.lt_trans (of_decide_eq_true h1) (of_decide_eq_true h2))
theorem ascP_tail {a : Str × Str} {l : List (Str × Str)} (h : AscP (a :: l)) : AscP l := fun i x y h1 h2 => h (i + 1) x y h1 h2
theorem ascP_head : ∀ {l : List (Str × Str)} {a : Str × Str}, AscP (a :: l) → ∀ q ∈ l, ltS a.1 q.1 = true
  | [], _, _, _, h => nomatch h
  | b :: r, a, h, q, hq => by
    have h1 : ltS a.1 b.1 = true := h 0 a b rfl rfl
    rcases List.mem_cons.mp hq with rfl | hq
    · exact h1
    · exact ltS_trans h1 (ascP_head (ascP_tail h) q hq)
theorem look_of : ∀ {l : List (Str × Str)}, AscP l → ∀ q ∈ l, look l q.1 = some q.2
  | [], _, _, h => nomatch h
  | a :: r, h, q, hq => by
    unfold look
    rw [List.filter_cons]
    rcases List.mem_cons.mp hq with rfl | hq
    · rw [decide_eq_true rfl]
      rfl
    · have h1 := ascP_head h q hq
      have h2 : ¬ a.1 = q.1 := fun e => by
        rw [e, ltS_irr] at h1
        cases h1
      rw [decide_eq_false h2]
      exact look_of (ascP_tail h) q hq
/-! ### names can be laid -/
theorem strOk_of {x : Str} (h : ∀ c ∈ x.cps.toList, c < 0x110000) : PyData.strOk x = true := by
  unfold PyData.strOk
  rw [Array.all_eq_true_iff_forall_mem]
  intro c hc
  exact decide_eq_true (h c (Array.mem_toList_iff.mpr hc))
theorem letters_small : (("abcdefghijklmnopqrstuvwxyz" : Str).cps.toList.all fun c => decide (c < 0x110000)) = true := by kernel_rfl
theorem name_strOk {x : Str} (h : nameOk x = true) : PyData.strOk x = true := by
  obtain ⟨_, h2⟩ := and2 h
  obtain ⟨_, h4⟩ := and2 h2
  refine strOk_of fun c hc => ?_
  have h5 : letter c = true := List.all_eq_true.mp h4 c hc
  exact of_decide_eq_true (List.all_eq_true.mp letters_small c (of_decide_eq_true h5))
/-- small data: what may be compared and shown -/
structure Sml (k w : Nat) (d : D) : Prop where
  lay : PyData.canLay0 d = true
  dep : PyData.depth d ≤ k
  wt : PyData.weight d ≤ w
  shrt : PyData.intsShort 13 d = true
  show_ : PyData.showable d = true
structure SmlA (k w : Nat) (ds : List D) : Prop where
  lay : PyData.canLayAll0 ds = true
  dep : PyData.depthAll ds ≤ k
  wt : PyData.weightAll ds ≤ ds.length * (w + 1)
  shrt : PyData.intsShortAll 13 ds = true
  show_ : PyData.showableAll ds = true
theorem smA_nil (k w : Nat) : SmlA k w [] := ⟨rfl, Nat.zero_le _, Nat.zero_le _, rfl, rfl⟩
theorem smA_cons {k w : Nat} {d : D} {ds : List D} (h : Sml k w d) (hs : SmlA k w ds) : SmlA k w (d :: ds) := by
  refine ⟨?_, ?_, ?_, ?_, ?_⟩
  · rw [PyData.canLayAll0, h.lay, hs.lay]
    rfl
  · rw [PyData.depthAll]
    exact Nat.max_le.mpr ⟨h.dep, hs.dep⟩
  · rw [PyData.weightAll, List.length_cons, Nat.succ_mul]
    have h1 := h.wt
    have h2 := hs.wt
    omega
  · rw [PyData.intsShortAll, h.shrt, hs.shrt]
    rfl
  · rw [PyData.showableAll, h.show_, hs.show_]
    rfl
theorem smA_of {k w : Nat} : ∀ {ds : List D}, (∀ d ∈ ds, Sml k w d) → SmlA k w ds
  | [], _ => smA_nil k w
  | d :: r, h => smA_cons (h d List.mem_cons_self) (smA_of fun e he => h e (List.mem_cons_of_mem _ he))
theorem sm_tup {k w n : Nat} {ds : List D} (h : ∀ d ∈ ds, Sml k w d) (hn : ds.length ≤ n) : Sml (k + 1) (n * (w + 1)) (.tuple ds) := by
  have hs := smA_of h
  refine ⟨?_, ?_, ?_, ?_, ?_⟩
  · rw [PyData.canLay0]
    exact hs.lay
  · rw [PyData.depth]
    exact Nat.succ_le_succ hs.dep
  · rw [PyData.weight]
    exact Nat.le_trans hs.wt (Nat.mul_le_mul_right _ hn)
  · rw [PyData.intsShort]
    exact hs.shrt
  · rw [PyData.showable]
    exact hs.show_
theorem sm_lst {k w n : Nat} {ds : List D} (h : ∀ d ∈ ds, Sml k w d) (hn : ds.length ≤ n) : Sml (k + 1) (n * (w + 1)) (.list ds) := by
  have hs := smA_of h
  refine ⟨?_, ?_, ?_, ?_, ?_⟩
  · rw [PyData.canLay0]
    exact hs.lay
  · rw [PyData.depth]
    exact Nat.succ_le_succ hs.dep
  · rw [PyData.weight]
    exact Nat.le_trans hs.wt (Nat.mul_le_mul_right _ hn)
  · rw [PyData.intsShort]
    exact hs.shrt
  · rw [PyData.showable]
    exact hs.show_
theorem sm_mono {k w k' w' : Nat} {d : D} (h : Sml k w d) (hk : k ≤ k') (hw : w ≤ w') : Sml k' w' d := ⟨h.lay, Nat.le_trans h.dep hk, Nat.le_trans h.wt hw, h.shrt, h.show_⟩
theorem sm_str {w : Nat} {x : Str} (h : PyData.strOk x = true) (hl : x.cps.size ≤ w) : Sml 0 w (.str x) := ⟨h, Nat.le_refl _, hl, rfl, rfl⟩
theorem sm_name {x : Str} (h : nameOk x = true) : Sml 0 40 (.str x) := by
  refine sm_str (name_strOk h) ?_
  obtain ⟨_, h2⟩ := and2 h
  obtain ⟨h3, _⟩ := and2 h2
  have h4 := of_decide_eq_true h3
  have h5 : x.cps.size = x.length := rfl
  omega
theorem sm_bool (b : Bool) : Sml 0 40 (.bool b) := ⟨rfl, Nat.le_refl _, Nat.zero_le _, rfl, rfl⟩
theorem sm_int {n : Nat} (h : n < 2 ^ 39) : Sml 0 40 (.int n) := by
  have hl : n.log2 < 40 := by
    by_cases h0 : n = 0
    · subst h0
      decide
    · exact Nat.lt_of_lt_of_le ((Nat.log2_lt h0).mpr h) (by decide)
  refine ⟨rfl, Nat.le_refl _, ?_, ?_, ?_⟩
  · rw [PyData.weight]
    by_cases h0 : (n : Int) == 0
    · rw [if_pos h0]
      omega
    · rw [if_neg h0]
      show n.log2 + 1 ≤ 40
      omega
  · rw [PyData.intsShort]
    refine decide_eq_true (PyData.shown_int_le ?_)
    show n < 10 ^ 12
    omega
  · rw [PyData.showable]
    refine decide_eq_true ?_
    show n.log2 < 1920
    omega
theorem sm_shaped {k w : Nat} {d : D} (h : Sml k w d) (hk : k ≤ 64) : SeqAt.shaped d = true := by
  unfold SeqAt.shaped
  rw [h.lay, decide_eq_true (Nat.le_trans h.dep hk)]
  rfl
theorem ne_tup {ds : List D} {k w : Nat} (h : Sml k w (.tuple ds)) (hk : k ≤ 64) : cop .ne (.tuple ds) (.tuple []) = some (!ds.isEmpty) := by
  have h2 : SeqAt.shaped (.tuple []) = true := by kernel_rfl
  show ((if (SeqAt.shaped (.tuple ds) && SeqAt.shaped (.tuple [])) = true then some (PyData.eqv (.tuple ds) (.tuple [])) else none).map (!·)) = _
  rw [sm_shaped h hk, h2, PyData.eqv]
  cases ds with
  | nil =>
    rw [PyData.eqvAll]
    rfl
  | cons n r =>
    rw [PyData.eqvAll]
    rfl
end Qv.K5

namespace Qv.K5
open PySem Tx
/-- words that a row may have -/
def Al (p : Prog) (own : Bool) (w : Str) : Prop := w = "told" ∨ w = "go" ∨ (p.ms ≠ [] ∧ (w = "call" ∨ w = "set" ∨ w = "gone")) ∨ (p.fl ≠ [] ∧ (w = "raise" ∨ w = "lower" ∨ w = "ask")) ∨ (p.to ≠ [] ∧ w = "use") ∨ (own = true ∧ w = "end") ∨ (own = true ∧ p.fl ≠ [] ∧ w = "wait")
def ple : Bool := (["start", "end", "stop"] : List Str).all fun x => nameOk x && place x
theorem ple_t : ple = true := by kernel_rfl
theorem row_tail {p : Prog} {rest : List D} {many l : Nat} {own : Bool} {W : D} {w : Str} (k : Kn p) (hl : l ≤ many) (hw : Al p own w) :
    Tot (evSs G_7 fuel rowTail [.feed, .val (.tuple (.tuple (p.st.map pr) :: .tuple (p.ms.map pr) :: .tuple (p.fl.map .str) :: .tuple (p.to.map .str) :: rest)), .val (.int many), .val (.bool own), .val W, .val (.str w), .val (.int l), .emp, .emp, .emp, .emp, .emp]) fun r => ∃ q : Row, r = .rt q.enc ∧ q.ok p many own := by
  rcases hw with rfl | rfl | ⟨hm, rfl | rfl | rfl⟩ | ⟨hf, rfl | rfl | rfl⟩ | ⟨ht, rfl⟩ | ⟨ho, rfl⟩ | ⟨ho, hf, rfl⟩
  · -- told
    unfold rowTail
    simp -implicitDefEqProofs only [evSs, evS, evE, evAnd, evOr, evL, evA, evO, evC, evI, froz, thaw_nil, thaw, behind_nil, behind_int, behind_bool, behind_str, behind_none, behind_tup, behind_lst, isFeed, asB, asI, isNone_none, isNone_bool, isNone_int, isNone_str, isNone_tup, isNone_lst, mb_ret, mb_bad, mb_mb, ofO_ret, ofO_bad, List.getElem?_cons_zero, List.getElem?_cons_succ, List.cons_append, List.nil_append, List.replicate, List.length_cons, List.length_nil, List.set_cons_zero, List.set_cons_succ, bindT_nm, bindT_tp, setAll, setO, Option.map_some, Option.map_none, List.map_cons, List.map_nil, wipeR, ite_tt, ite_ft, if_true, if_false, Nat.reduceAdd, Nat.reduceSub, Bool.false_eq_true, at_7__law_pick_2, ix_t1, ix_t2, ix_t3, cop_in, inlit2, inlit3, inlit4, cop_eq_str, cop_ne_str, ofS_inj, String.reduceEq, decide_false, decide_true, Bool.or_true, Bool.true_or, Bool.or_false, Bool.false_or, Bool.not_true, Bool.not_false, bop_add_t, lenOk, Nat.reduceLeDiff]
    refine tot_mb (l_pick_l (xs := [.str "whole", .str "part", .str "broken"]) (by decide) (by decide)) fun d hd => ?_
    have hd2 : ∃ z : Str, d = .str z ∧ isAnswer z = true := by
      simp only [List.mem_cons, List.not_mem_nil, or_false] at hd
      rcases hd with rfl | rfl | rfl <;> exact ⟨_, rfl, by unfold isAnswer; simp only [ofS_inj, String.reduceEq, decide_true, decide_false, Bool.true_or, Bool.or_true]⟩
    obtain ⟨z, rfl, hz⟩ := hd2
    try simp -implicitDefEqProofs only [evSs, evS, evE, evAnd, evOr, evL, evA, evO, evC, evI, froz, thaw_nil, thaw, behind_nil, behind_int, behind_bool, behind_str, behind_none, behind_tup, behind_lst, isFeed, asB, asI, isNone_none, isNone_bool, isNone_int, isNone_str, isNone_tup, isNone_lst, mb_ret, mb_bad, mb_mb, ofO_ret, ofO_bad, List.getElem?_cons_zero, List.getElem?_cons_succ, List.cons_append, List.nil_append, List.replicate, List.length_cons, List.length_nil, List.set_cons_zero, List.set_cons_succ, bindT_nm, bindT_tp, setAll, setO, Option.map_some, Option.map_none, List.map_cons, List.map_nil, wipeR, ite_tt, ite_ft, if_true, if_false, Nat.reduceAdd, Nat.reduceSub, Bool.false_eq_true, at_7__law_pick_2, ix_t1, ix_t2, ix_t3, cop_in, inlit2, inlit3, inlit4, cop_eq_str, cop_ne_str, ofS_inj, String.reduceEq, decide_false, decide_true, Bool.or_true, Bool.true_or, Bool.or_false, Bool.false_or, Bool.not_true, Bool.not_false, bop_add_t, lenOk, Nat.reduceLeDiff]
    exact tot_ret ⟨.told z l, rfl, hz, trivial, fun j e => by cases e; exact hl, (fun e => nomatch e)⟩
  · -- go
    unfold rowTail
    try simp -implicitDefEqProofs only [evSs, evS, evE, evAnd, evOr, evL, evA, evO, evC, evI, froz, thaw_nil, thaw, behind_nil, behind_int, behind_bool, behind_str, behind_none, behind_tup, behind_lst, isFeed, asB, asI, isNone_none, isNone_bool, isNone_int, isNone_str, isNone_tup, isNone_lst, mb_ret, mb_bad, mb_mb, ofO_ret, ofO_bad, List.getElem?_cons_zero, List.getElem?_cons_succ, List.cons_append, List.nil_append, List.replicate, List.length_cons, List.length_nil, List.set_cons_zero, List.set_cons_succ, bindT_nm, bindT_tp, setAll, setO, Option.map_some, Option.map_none, List.map_cons, List.map_nil, wipeR, ite_tt, ite_ft, if_true, if_false, Nat.reduceAdd, Nat.reduceSub, Bool.false_eq_true, at_7__law_pick_2, ix_t1, ix_t2, ix_t3, cop_in, inlit2, inlit3, inlit4, cop_eq_str, cop_ne_str, ofS_inj, String.reduceEq, decide_false, decide_true, Bool.or_true, Bool.true_or, Bool.or_false, Bool.false_or, Bool.not_true, Bool.not_false, bop_add_t, lenOk, Nat.reduceLeDiff]
    exact tot_ret ⟨.go l, rfl, trivial, trivial, fun j e => by cases e; exact hl, (fun e => nomatch e)⟩
  · -- call
    unfold rowTail
    simp -implicitDefEqProofs only [evSs, evS, evE, evAnd, evOr, evL, evA, evO, evC, evI, froz, thaw_nil, thaw, behind_nil, behind_int, behind_bool, behind_str, behind_none, behind_tup, behind_lst, isFeed, asB, asI, isNone_none, isNone_bool, isNone_int, isNone_str, isNone_tup, isNone_lst, mb_ret, mb_bad, mb_mb, ofO_ret, ofO_bad, List.getElem?_cons_zero, List.getElem?_cons_succ, List.cons_append, List.nil_append, List.replicate, List.length_cons, List.length_nil, List.set_cons_zero, List.set_cons_succ, bindT_nm, bindT_tp, setAll, setO, Option.map_some, Option.map_none, List.map_cons, List.map_nil, wipeR, ite_tt, ite_ft, if_true, if_false, Nat.reduceAdd, Nat.reduceSub, Bool.false_eq_true, at_7__law_pick_2, ix_t1, ix_t2, ix_t3, cop_in, inlit2, inlit3, inlit4, cop_eq_str, cop_ne_str, ofS_inj, String.reduceEq, decide_false, decide_true, Bool.or_true, Bool.true_or, Bool.or_false, Bool.false_or, Bool.not_true, Bool.not_false, bop_add_t, lenOk, Nat.reduceLeDiff]
    refine tot_mb (l_pick_t (xs := p.ms.map pr) (by rw [List.length_map]; exact List.length_pos_iff.mpr hm) (by rw [List.length_map]; have := k.msL; omega)) fun d hd => ?_
    obtain ⟨q, hq, rfl⟩ := List.mem_map.mp hd
    obtain ⟨n1, n2, n3⟩ := k.ms q hq
    have eq : pr q = .tuple [.str q.1, .str q.2] := rfl
    rw [eq]
    try simp -implicitDefEqProofs only [evSs, evS, evE, evAnd, evOr, evL, evA, evO, evC, evI, froz, thaw_nil, thaw, behind_nil, behind_int, behind_bool, behind_str, behind_none, behind_tup, behind_lst, isFeed, asB, asI, isNone_none, isNone_bool, isNone_int, isNone_str, isNone_tup, isNone_lst, mb_ret, mb_bad, mb_mb, ofO_ret, ofO_bad, List.getElem?_cons_zero, List.getElem?_cons_succ, List.cons_append, List.nil_append, List.replicate, List.length_cons, List.length_nil, List.set_cons_zero, List.set_cons_succ, bindT_nm, bindT_tp, setAll, setO, Option.map_some, Option.map_none, List.map_cons, List.map_nil, wipeR, ite_tt, ite_ft, if_true, if_false, Nat.reduceAdd, Nat.reduceSub, Bool.false_eq_true, at_7__law_pick_2, ix_t1, ix_t2, ix_t3, cop_in, inlit2, inlit3, inlit4, cop_eq_str, cop_ne_str, ofS_inj, String.reduceEq, decide_false, decide_true, Bool.or_true, Bool.true_or, Bool.or_false, Bool.false_or, Bool.not_true, Bool.not_false, bop_add_t, lenOk, Nat.reduceLeDiff]
    exact tot_ret ⟨.call q.1, rfl, ⟨n1, n2⟩, ⟨q.2, look_of k.msA q hq⟩, (fun j e => nomatch e), (fun e => nomatch e)⟩
  · -- set
    unfold rowTail
    simp -implicitDefEqProofs only [evSs, evS, evE, evAnd, evOr, evL, evA, evO, evC, evI, froz, thaw_nil, thaw, behind_nil, behind_int, behind_bool, behind_str, behind_none, behind_tup, behind_lst, isFeed, asB, asI, isNone_none, isNone_bool, isNone_int, isNone_str, isNone_tup, isNone_lst, mb_ret, mb_bad, mb_mb, ofO_ret, ofO_bad, List.getElem?_cons_zero, List.getElem?_cons_succ, List.cons_append, List.nil_append, List.replicate, List.length_cons, List.length_nil, List.set_cons_zero, List.set_cons_succ, bindT_nm, bindT_tp, setAll, setO, Option.map_some, Option.map_none, List.map_cons, List.map_nil, wipeR, ite_tt, ite_ft, if_true, if_false, Nat.reduceAdd, Nat.reduceSub, Bool.false_eq_true, at_7__law_pick_2, ix_t1, ix_t2, ix_t3, cop_in, inlit2, inlit3, inlit4, cop_eq_str, cop_ne_str, ofS_inj, String.reduceEq, decide_false, decide_true, Bool.or_true, Bool.true_or, Bool.or_false, Bool.false_or, Bool.not_true, Bool.not_false, bop_add_t, lenOk, Nat.reduceLeDiff]
    refine tot_mb (l_pick_t (xs := p.ms.map pr) (by rw [List.length_map]; exact List.length_pos_iff.mpr hm) (by rw [List.length_map]; have := k.msL; omega)) fun d hd => ?_
    obtain ⟨q, hq, rfl⟩ := List.mem_map.mp hd
    obtain ⟨n1, n2, n3⟩ := k.ms q hq
    have eq : pr q = .tuple [.str q.1, .str q.2] := rfl
    rw [eq]
    simp -implicitDefEqProofs only [evSs, evS, evE, evAnd, evOr, evL, evA, evO, evC, evI, froz, thaw_nil, thaw, behind_nil, behind_int, behind_bool, behind_str, behind_none, behind_tup, behind_lst, isFeed, asB, asI, isNone_none, isNone_bool, isNone_int, isNone_str, isNone_tup, isNone_lst, mb_ret, mb_bad, mb_mb, ofO_ret, ofO_bad, List.getElem?_cons_zero, List.getElem?_cons_succ, List.cons_append, List.nil_append, List.replicate, List.length_cons, List.length_nil, List.set_cons_zero, List.set_cons_succ, bindT_nm, bindT_tp, setAll, setO, Option.map_some, Option.map_none, List.map_cons, List.map_nil, wipeR, ite_tt, ite_ft, if_true, if_false, Nat.reduceAdd, Nat.reduceSub, Bool.false_eq_true, at_7__law_pick_2, ix_t1, ix_t2, ix_t3, cop_in, inlit2, inlit3, inlit4, cop_eq_str, cop_ne_str, ofS_inj, String.reduceEq, decide_false, decide_true, Bool.or_true, Bool.true_or, Bool.or_false, Bool.false_or, Bool.not_true, Bool.not_false, bop_add_t, lenOk, Nat.reduceLeDiff, itemsOf]
    rw [compL_ofF (p := fun z : Str × Str => decide (z.2 = q.2) && !decide (z.1 = q.1)) (g := fun z => .str z.1) fun z _ => by
      unfold pr
      simp -implicitDefEqProofs only [evSs, evS, evE, evAnd, evOr, evL, evA, evO, evC, evI, froz, thaw_nil, thaw, behind_nil, behind_int, behind_bool, behind_str, behind_none, behind_tup, behind_lst, isFeed, asB, asI, isNone_none, isNone_bool, isNone_int, isNone_str, isNone_tup, isNone_lst, mb_ret, mb_bad, mb_mb, ofO_ret, ofO_bad, List.getElem?_cons_zero, List.getElem?_cons_succ, List.cons_append, List.nil_append, List.replicate, List.length_cons, List.length_nil, List.set_cons_zero, List.set_cons_succ, bindT_nm, bindT_tp, setAll, setO, Option.map_some, Option.map_none, List.map_cons, List.map_nil, wipeR, ite_tt, ite_ft, if_true, if_false, Nat.reduceAdd, Nat.reduceSub, Bool.false_eq_true, cop_eq_str, cop_ne_str]
      cases decide (z.2 = q.2) <;> cases decide (z.1 = q.1) <;> rfl]
    have f1 := List.length_filter_le (fun z : Str × Str => decide (z.2 = q.2) && !decide (z.1 = q.1)) p.ms
    have f2 := k.msL
    have f3 : ∀ z ∈ p.ms.filter (fun z : Str × Str => decide (z.2 = q.2) && !decide (z.1 = q.1)), z ∈ p.ms ∧ z.2 = q.2 ∧ z.1 ≠ q.1 := fun z hz => by
      obtain ⟨g1, g2⟩ := List.mem_filter.mp hz
      obtain ⟨g2, g3⟩ := and2 g2
      refine ⟨g1, of_decide_eq_true g2, fun e => ?_⟩
      rw [decide_eq_true e] at g3
      cases g3
    generalize p.ms.filter (fun z : Str × Str => decide (z.2 = q.2) && !decide (z.1 = q.1)) = o at f1 f3
    have c1 : decide ((o.map fun z => PyData.str z.1).length ≤ 1000000) = true := by
      rw [List.length_map]
      exact lenOk_of (by omega)
    have c2 : lenOk (3 + (o.map fun z => PyData.str z.1).length) = true := by
      rw [List.length_map]
      exact lenOk_of (by omega)
    simp -implicitDefEqProofs only [evSs, evS, evE, evAnd, evOr, evL, evA, evO, evC, evI, froz, thaw_nil, thaw, behind_nil, behind_int, behind_bool, behind_str, behind_none, behind_tup, behind_lst, isFeed, asB, asI, isNone_none, isNone_bool, isNone_int, isNone_str, isNone_tup, isNone_lst, mb_ret, mb_bad, mb_mb, ofO_ret, ofO_bad, List.getElem?_cons_zero, List.getElem?_cons_succ, List.cons_append, List.nil_append, List.replicate, List.length_cons, List.length_nil, List.set_cons_zero, List.set_cons_succ, bindT_nm, bindT_tp, setAll, setO, Option.map_some, Option.map_none, List.map_cons, List.map_nil, wipeR, ite_tt, ite_ft, if_true, if_false, Nat.reduceAdd, Nat.reduceSub, Bool.false_eq_true, c1, bop_add_l, c2]
    refine tot_mb (l_pick_l (xs := .str "start" :: .str "end" :: .str "stop" :: o.map fun z : Str × Str => PyData.str z.1) (by rw [List.length_cons]; omega) (by rw [List.length_cons, List.length_cons, List.length_cons, List.length_map]; omega)) fun d hd => ?_
    have hd2 : ∃ z : Str, d = .str z ∧ nameOk z = true ∧ z ≠ q.1 ∧ (place z = true ∨ look p.ms z = some q.2) := by
      have pl : ∀ z ∈ (["start", "end", "stop"] : List Str), nameOk z = true ∧ z ≠ q.1 ∧ (place z = true ∨ look p.ms z = some q.2) := fun z hz => by
        have := List.all_eq_true.mp ple_t z hz
        obtain ⟨g1, g2⟩ := and2 this
        refine ⟨g1, fun e => ?_, .inl g2⟩
        rw [e, n2] at g2
        cases g2
      rcases List.mem_cons.mp hd with rfl | hd
      · exact ⟨_, rfl, pl _ (.head _)⟩
      rcases List.mem_cons.mp hd with rfl | hd
      · exact ⟨_, rfl, pl _ (.tail _ (.head _))⟩
      rcases List.mem_cons.mp hd with rfl | hd
      · exact ⟨_, rfl, pl _ (.tail _ (.tail _ (.head _)))⟩
      obtain ⟨z, hz, rfl⟩ := List.mem_map.mp hd
      obtain ⟨g1, g2, g3⟩ := f3 z hz
      refine ⟨z.1, rfl, (k.ms z g1).1, g3, .inr ?_⟩
      rw [look_of k.msA z g1, g2]
    obtain ⟨z, rfl, g1, g2, g3⟩ := hd2
    try simp -implicitDefEqProofs only [evSs, evS, evE, evAnd, evOr, evL, evA, evO, evC, evI, froz, thaw_nil, thaw, behind_nil, behind_int, behind_bool, behind_str, behind_none, behind_tup, behind_lst, isFeed, asB, asI, isNone_none, isNone_bool, isNone_int, isNone_str, isNone_tup, isNone_lst, mb_ret, mb_bad, mb_mb, ofO_ret, ofO_bad, List.getElem?_cons_zero, List.getElem?_cons_succ, List.cons_append, List.nil_append, List.replicate, List.length_cons, List.length_nil, List.set_cons_zero, List.set_cons_succ, bindT_nm, bindT_tp, setAll, setO, Option.map_some, Option.map_none, List.map_cons, List.map_nil, wipeR, ite_tt, ite_ft, if_true, if_false, Nat.reduceAdd, Nat.reduceSub, Bool.false_eq_true]
    exact tot_ret ⟨.set q.1 z, rfl, ⟨⟨n1, n2⟩, g1, g2⟩, ⟨q.2, look_of k.msA q hq, g3⟩, (fun j e => nomatch e), (fun e => nomatch e)⟩
  · -- gone
    unfold rowTail
    simp -implicitDefEqProofs only [evSs, evS, evE, evAnd, evOr, evL, evA, evO, evC, evI, froz, thaw_nil, thaw, behind_nil, behind_int, behind_bool, behind_str, behind_none, behind_tup, behind_lst, isFeed, asB, asI, isNone_none, isNone_bool, isNone_int, isNone_str, isNone_tup, isNone_lst, mb_ret, mb_bad, mb_mb, ofO_ret, ofO_bad, List.getElem?_cons_zero, List.getElem?_cons_succ, List.cons_append, List.nil_append, List.replicate, List.length_cons, List.length_nil, List.set_cons_zero, List.set_cons_succ, bindT_nm, bindT_tp, setAll, setO, Option.map_some, Option.map_none, List.map_cons, List.map_nil, wipeR, ite_tt, ite_ft, if_true, if_false, Nat.reduceAdd, Nat.reduceSub, Bool.false_eq_true, at_7__law_pick_2, ix_t1, ix_t2, ix_t3, cop_in, inlit2, inlit3, inlit4, cop_eq_str, cop_ne_str, ofS_inj, String.reduceEq, decide_false, decide_true, Bool.or_true, Bool.true_or, Bool.or_false, Bool.false_or, Bool.not_true, Bool.not_false, bop_add_t, lenOk, Nat.reduceLeDiff]
    refine tot_mb (l_pick_t (xs := p.ms.map pr) (by rw [List.length_map]; exact List.length_pos_iff.mpr hm) (by rw [List.length_map]; have := k.msL; omega)) fun d hd => ?_
    obtain ⟨q, hq, rfl⟩ := List.mem_map.mp hd
    obtain ⟨n1, n2, n3⟩ := k.ms q hq
    have eq : pr q = .tuple [.str q.1, .str q.2] := rfl
    rw [eq]
    try simp -implicitDefEqProofs only [evSs, evS, evE, evAnd, evOr, evL, evA, evO, evC, evI, froz, thaw_nil, thaw, behind_nil, behind_int, behind_bool, behind_str, behind_none, behind_tup, behind_lst, isFeed, asB, asI, isNone_none, isNone_bool, isNone_int, isNone_str, isNone_tup, isNone_lst, mb_ret, mb_bad, mb_mb, ofO_ret, ofO_bad, List.getElem?_cons_zero, List.getElem?_cons_succ, List.cons_append, List.nil_append, List.replicate, List.length_cons, List.length_nil, List.set_cons_zero, List.set_cons_succ, bindT_nm, bindT_tp, setAll, setO, Option.map_some, Option.map_none, List.map_cons, List.map_nil, wipeR, ite_tt, ite_ft, if_true, if_false, Nat.reduceAdd, Nat.reduceSub, Bool.false_eq_true, at_7__law_pick_2, ix_t1, ix_t2, ix_t3, cop_in, inlit2, inlit3, inlit4, cop_eq_str, cop_ne_str, ofS_inj, String.reduceEq, decide_false, decide_true, Bool.or_true, Bool.true_or, Bool.or_false, Bool.false_or, Bool.not_true, Bool.not_false, bop_add_t, lenOk, Nat.reduceLeDiff]
    exact tot_ret ⟨.gone q.1 l, rfl, ⟨n1, n2⟩, ⟨q.2, look_of k.msA q hq⟩, fun j e => by cases e; exact hl, (fun e => nomatch e)⟩
  · -- raise
    unfold rowTail
    simp -implicitDefEqProofs only [evSs, evS, evE, evAnd, evOr, evL, evA, evO, evC, evI, froz, thaw_nil, thaw, behind_nil, behind_int, behind_bool, behind_str, behind_none, behind_tup, behind_lst, isFeed, asB, asI, isNone_none, isNone_bool, isNone_int, isNone_str, isNone_tup, isNone_lst, mb_ret, mb_bad, mb_mb, ofO_ret, ofO_bad, List.getElem?_cons_zero, List.getElem?_cons_succ, List.cons_append, List.nil_append, List.replicate, List.length_cons, List.length_nil, List.set_cons_zero, List.set_cons_succ, bindT_nm, bindT_tp, setAll, setO, Option.map_some, Option.map_none, List.map_cons, List.map_nil, wipeR, ite_tt, ite_ft, if_true, if_false, Nat.reduceAdd, Nat.reduceSub, Bool.false_eq_true, at_7__law_pick_2, ix_t1, ix_t2, ix_t3, cop_in, inlit2, inlit3, inlit4, cop_eq_str, cop_ne_str, ofS_inj, String.reduceEq, decide_false, decide_true, Bool.or_true, Bool.true_or, Bool.or_false, Bool.false_or, Bool.not_true, Bool.not_false, bop_add_t, lenOk, Nat.reduceLeDiff]
    refine tot_mb (l_pick_t (xs := p.fl.map .str) (by rw [List.length_map]; exact List.length_pos_iff.mpr hf) (by rw [List.length_map]; have := k.flL; omega)) fun d hd => ?_
    obtain ⟨f, hm, rfl⟩ := List.mem_map.mp hd
    try simp -implicitDefEqProofs only [evSs, evS, evE, evAnd, evOr, evL, evA, evO, evC, evI, froz, thaw_nil, thaw, behind_nil, behind_int, behind_bool, behind_str, behind_none, behind_tup, behind_lst, isFeed, asB, asI, isNone_none, isNone_bool, isNone_int, isNone_str, isNone_tup, isNone_lst, mb_ret, mb_bad, mb_mb, ofO_ret, ofO_bad, List.getElem?_cons_zero, List.getElem?_cons_succ, List.cons_append, List.nil_append, List.replicate, List.length_cons, List.length_nil, List.set_cons_zero, List.set_cons_succ, bindT_nm, bindT_tp, setAll, setO, Option.map_some, Option.map_none, List.map_cons, List.map_nil, wipeR, ite_tt, ite_ft, if_true, if_false, Nat.reduceAdd, Nat.reduceSub, Bool.false_eq_true, at_7__law_pick_2, ix_t1, ix_t2, ix_t3, cop_in, inlit2, inlit3, inlit4, cop_eq_str, cop_ne_str, ofS_inj, String.reduceEq, decide_false, decide_true, Bool.or_true, Bool.true_or, Bool.or_false, Bool.false_or, Bool.not_true, Bool.not_false, bop_add_t, lenOk, Nat.reduceLeDiff]
    exact tot_ret ⟨.rais f, rfl, k.fl f hm, hm, (fun j e => nomatch e), (fun e => nomatch e)⟩
  · -- lower
    unfold rowTail
    simp -implicitDefEqProofs only [evSs, evS, evE, evAnd, evOr, evL, evA, evO, evC, evI, froz, thaw_nil, thaw, behind_nil, behind_int, behind_bool, behind_str, behind_none, behind_tup, behind_lst, isFeed, asB, asI, isNone_none, isNone_bool, isNone_int, isNone_str, isNone_tup, isNone_lst, mb_ret, mb_bad, mb_mb, ofO_ret, ofO_bad, List.getElem?_cons_zero, List.getElem?_cons_succ, List.cons_append, List.nil_append, List.replicate, List.length_cons, List.length_nil, List.set_cons_zero, List.set_cons_succ, bindT_nm, bindT_tp, setAll, setO, Option.map_some, Option.map_none, List.map_cons, List.map_nil, wipeR, ite_tt, ite_ft, if_true, if_false, Nat.reduceAdd, Nat.reduceSub, Bool.false_eq_true, at_7__law_pick_2, ix_t1, ix_t2, ix_t3, cop_in, inlit2, inlit3, inlit4, cop_eq_str, cop_ne_str, ofS_inj, String.reduceEq, decide_false, decide_true, Bool.or_true, Bool.true_or, Bool.or_false, Bool.false_or, Bool.not_true, Bool.not_false, bop_add_t, lenOk, Nat.reduceLeDiff]
    refine tot_mb (l_pick_t (xs := p.fl.map .str) (by rw [List.length_map]; exact List.length_pos_iff.mpr hf) (by rw [List.length_map]; have := k.flL; omega)) fun d hd => ?_
    obtain ⟨f, hm, rfl⟩ := List.mem_map.mp hd
    try simp -implicitDefEqProofs only [evSs, evS, evE, evAnd, evOr, evL, evA, evO, evC, evI, froz, thaw_nil, thaw, behind_nil, behind_int, behind_bool, behind_str, behind_none, behind_tup, behind_lst, isFeed, asB, asI, isNone_none, isNone_bool, isNone_int, isNone_str, isNone_tup, isNone_lst, mb_ret, mb_bad, mb_mb, ofO_ret, ofO_bad, List.getElem?_cons_zero, List.getElem?_cons_succ, List.cons_append, List.nil_append, List.replicate, List.length_cons, List.length_nil, List.set_cons_zero, List.set_cons_succ, bindT_nm, bindT_tp, setAll, setO, Option.map_some, Option.map_none, List.map_cons, List.map_nil, wipeR, ite_tt, ite_ft, if_true, if_false, Nat.reduceAdd, Nat.reduceSub, Bool.false_eq_true, at_7__law_pick_2, ix_t1, ix_t2, ix_t3, cop_in, inlit2, inlit3, inlit4, cop_eq_str, cop_ne_str, ofS_inj, String.reduceEq, decide_false, decide_true, Bool.or_true, Bool.true_or, Bool.or_false, Bool.false_or, Bool.not_true, Bool.not_false, bop_add_t, lenOk, Nat.reduceLeDiff]
    exact tot_ret ⟨.lower f, rfl, k.fl f hm, hm, (fun j e => nomatch e), (fun e => nomatch e)⟩
  · -- ask
    unfold rowTail
    simp -implicitDefEqProofs only [evSs, evS, evE, evAnd, evOr, evL, evA, evO, evC, evI, froz, thaw_nil, thaw, behind_nil, behind_int, behind_bool, behind_str, behind_none, behind_tup, behind_lst, isFeed, asB, asI, isNone_none, isNone_bool, isNone_int, isNone_str, isNone_tup, isNone_lst, mb_ret, mb_bad, mb_mb, ofO_ret, ofO_bad, List.getElem?_cons_zero, List.getElem?_cons_succ, List.cons_append, List.nil_append, List.replicate, List.length_cons, List.length_nil, List.set_cons_zero, List.set_cons_succ, bindT_nm, bindT_tp, setAll, setO, Option.map_some, Option.map_none, List.map_cons, List.map_nil, wipeR, ite_tt, ite_ft, if_true, if_false, Nat.reduceAdd, Nat.reduceSub, Bool.false_eq_true, at_7__law_pick_2, ix_t1, ix_t2, ix_t3, cop_in, inlit2, inlit3, inlit4, cop_eq_str, cop_ne_str, ofS_inj, String.reduceEq, decide_false, decide_true, Bool.or_true, Bool.true_or, Bool.or_false, Bool.false_or, Bool.not_true, Bool.not_false, bop_add_t, lenOk, Nat.reduceLeDiff]
    refine tot_mb (l_pick_t (xs := p.fl.map .str) (by rw [List.length_map]; exact List.length_pos_iff.mpr hf) (by rw [List.length_map]; have := k.flL; omega)) fun d hd => ?_
    obtain ⟨f, hm, rfl⟩ := List.mem_map.mp hd
    try simp -implicitDefEqProofs only [evSs, evS, evE, evAnd, evOr, evL, evA, evO, evC, evI, froz, thaw_nil, thaw, behind_nil, behind_int, behind_bool, behind_str, behind_none, behind_tup, behind_lst, isFeed, asB, asI, isNone_none, isNone_bool, isNone_int, isNone_str, isNone_tup, isNone_lst, mb_ret, mb_bad, mb_mb, ofO_ret, ofO_bad, List.getElem?_cons_zero, List.getElem?_cons_succ, List.cons_append, List.nil_append, List.replicate, List.length_cons, List.length_nil, List.set_cons_zero, List.set_cons_succ, bindT_nm, bindT_tp, setAll, setO, Option.map_some, Option.map_none, List.map_cons, List.map_nil, wipeR, ite_tt, ite_ft, if_true, if_false, Nat.reduceAdd, Nat.reduceSub, Bool.false_eq_true, at_7__law_pick_2, ix_t1, ix_t2, ix_t3, cop_in, inlit2, inlit3, inlit4, cop_eq_str, cop_ne_str, ofS_inj, String.reduceEq, decide_false, decide_true, Bool.or_true, Bool.true_or, Bool.or_false, Bool.false_or, Bool.not_true, Bool.not_false, bop_add_t, lenOk, Nat.reduceLeDiff]
    exact tot_ret ⟨.ask f l, rfl, k.fl f hm, hm, fun j e => by cases e; exact hl, (fun e => nomatch e)⟩
  · -- use
    unfold rowTail
    simp -implicitDefEqProofs only [evSs, evS, evE, evAnd, evOr, evL, evA, evO, evC, evI, froz, thaw_nil, thaw, behind_nil, behind_int, behind_bool, behind_str, behind_none, behind_tup, behind_lst, isFeed, asB, asI, isNone_none, isNone_bool, isNone_int, isNone_str, isNone_tup, isNone_lst, mb_ret, mb_bad, mb_mb, ofO_ret, ofO_bad, List.getElem?_cons_zero, List.getElem?_cons_succ, List.cons_append, List.nil_append, List.replicate, List.length_cons, List.length_nil, List.set_cons_zero, List.set_cons_succ, bindT_nm, bindT_tp, setAll, setO, Option.map_some, Option.map_none, List.map_cons, List.map_nil, wipeR, ite_tt, ite_ft, if_true, if_false, Nat.reduceAdd, Nat.reduceSub, Bool.false_eq_true, at_7__law_pick_2, ix_t1, ix_t2, ix_t3, cop_in, inlit2, inlit3, inlit4, cop_eq_str, cop_ne_str, ofS_inj, String.reduceEq, decide_false, decide_true, Bool.or_true, Bool.true_or, Bool.or_false, Bool.false_or, Bool.not_true, Bool.not_false, bop_add_t, lenOk, Nat.reduceLeDiff]
    refine tot_mb (l_pick_t (xs := p.to.map .str) (by rw [List.length_map]; exact List.length_pos_iff.mpr ht) (by rw [List.length_map]; have := k.toL; omega)) fun d hd => ?_
    obtain ⟨f, hm, rfl⟩ := List.mem_map.mp hd
    try simp -implicitDefEqProofs only [evSs, evS, evE, evAnd, evOr, evL, evA, evO, evC, evI, froz, thaw_nil, thaw, behind_nil, behind_int, behind_bool, behind_str, behind_none, behind_tup, behind_lst, isFeed, asB, asI, isNone_none, isNone_bool, isNone_int, isNone_str, isNone_tup, isNone_lst, mb_ret, mb_bad, mb_mb, ofO_ret, ofO_bad, List.getElem?_cons_zero, List.getElem?_cons_succ, List.cons_append, List.nil_append, List.replicate, List.length_cons, List.length_nil, List.set_cons_zero, List.set_cons_succ, bindT_nm, bindT_tp, setAll, setO, Option.map_some, Option.map_none, List.map_cons, List.map_nil, wipeR, ite_tt, ite_ft, if_true, if_false, Nat.reduceAdd, Nat.reduceSub, Bool.false_eq_true, at_7__law_pick_2, ix_t1, ix_t2, ix_t3, cop_in, inlit2, inlit3, inlit4, cop_eq_str, cop_ne_str, ofS_inj, String.reduceEq, decide_false, decide_true, Bool.or_true, Bool.true_or, Bool.or_false, Bool.false_or, Bool.not_true, Bool.not_false, bop_add_t, lenOk, Nat.reduceLeDiff]
    exact tot_ret ⟨.use f, rfl, k.to f hm, hm, (fun j e => nomatch e), (fun e => nomatch e)⟩
  · -- end
    unfold rowTail
    try simp -implicitDefEqProofs only [evSs, evS, evE, evAnd, evOr, evL, evA, evO, evC, evI, froz, thaw_nil, thaw, behind_nil, behind_int, behind_bool, behind_str, behind_none, behind_tup, behind_lst, isFeed, asB, asI, isNone_none, isNone_bool, isNone_int, isNone_str, isNone_tup, isNone_lst, mb_ret, mb_bad, mb_mb, ofO_ret, ofO_bad, List.getElem?_cons_zero, List.getElem?_cons_succ, List.cons_append, List.nil_append, List.replicate, List.length_cons, List.length_nil, List.set_cons_zero, List.set_cons_succ, bindT_nm, bindT_tp, setAll, setO, Option.map_some, Option.map_none, List.map_cons, List.map_nil, wipeR, ite_tt, ite_ft, if_true, if_false, Nat.reduceAdd, Nat.reduceSub, Bool.false_eq_true, at_7__law_pick_2, ix_t1, ix_t2, ix_t3, cop_in, inlit2, inlit3, inlit4, cop_eq_str, cop_ne_str, ofS_inj, String.reduceEq, decide_false, decide_true, Bool.or_true, Bool.true_or, Bool.or_false, Bool.false_or, Bool.not_true, Bool.not_false, bop_add_t, lenOk, Nat.reduceLeDiff]
    exact tot_ret ⟨.fin, rfl, trivial, trivial, (fun j e => nomatch e), fun _ => ho⟩
  · -- wait
    unfold rowTail
    simp -implicitDefEqProofs only [evSs, evS, evE, evAnd, evOr, evL, evA, evO, evC, evI, froz, thaw_nil, thaw, behind_nil, behind_int, behind_bool, behind_str, behind_none, behind_tup, behind_lst, isFeed, asB, asI, isNone_none, isNone_bool, isNone_int, isNone_str, isNone_tup, isNone_lst, mb_ret, mb_bad, mb_mb, ofO_ret, ofO_bad, List.getElem?_cons_zero, List.getElem?_cons_succ, List.cons_append, List.nil_append, List.replicate, List.length_cons, List.length_nil, List.set_cons_zero, List.set_cons_succ, bindT_nm, bindT_tp, setAll, setO, Option.map_some, Option.map_none, List.map_cons, List.map_nil, wipeR, ite_tt, ite_ft, if_true, if_false, Nat.reduceAdd, Nat.reduceSub, Bool.false_eq_true, at_7__law_pick_2, ix_t1, ix_t2, ix_t3, cop_in, inlit2, inlit3, inlit4, cop_eq_str, cop_ne_str, ofS_inj, String.reduceEq, decide_false, decide_true, Bool.or_true, Bool.true_or, Bool.or_false, Bool.false_or, Bool.not_true, Bool.not_false, bop_add_t, lenOk, Nat.reduceLeDiff]
    refine tot_mb (l_pick_t (xs := p.fl.map .str) (by rw [List.length_map]; exact List.length_pos_iff.mpr hf) (by rw [List.length_map]; have := k.flL; omega)) fun d hd => ?_
    obtain ⟨f, hm, rfl⟩ := List.mem_map.mp hd
    try simp -implicitDefEqProofs only [evSs, evS, evE, evAnd, evOr, evL, evA, evO, evC, evI, froz, thaw_nil, thaw, behind_nil, behind_int, behind_bool, behind_str, behind_none, behind_tup, behind_lst, isFeed, asB, asI, isNone_none, isNone_bool, isNone_int, isNone_str, isNone_tup, isNone_lst, mb_ret, mb_bad, mb_mb, ofO_ret, ofO_bad, List.getElem?_cons_zero, List.getElem?_cons_succ, List.cons_append, List.nil_append, List.replicate, List.length_cons, List.length_nil, List.set_cons_zero, List.set_cons_succ, bindT_nm, bindT_tp, setAll, setO, Option.map_some, Option.map_none, List.map_cons, List.map_nil, wipeR, ite_tt, ite_ft, if_true, if_false, Nat.reduceAdd, Nat.reduceSub, Bool.false_eq_true, at_7__law_pick_2, ix_t1, ix_t2, ix_t3, cop_in, inlit2, inlit3, inlit4, cop_eq_str, cop_ne_str, ofS_inj, String.reduceEq, decide_false, decide_true, Bool.or_true, Bool.true_or, Bool.or_false, Bool.false_or, Bool.not_true, Bool.not_false, bop_add_t, lenOk, Nat.reduceLeDiff]
    exact tot_ret ⟨.wait f, rfl, k.fl f hm, hm, (fun j e => nomatch e), fun _ => ho⟩
end Qv.K5

namespace Qv.K5
open PySem Tx
theorem sm_pr {q : Str × Str} (h1 : Sml 0 40 (.str q.1)) (h2 : Sml 0 40 (.str q.2)) : Sml 1 82 (pr q) := sm_tup (n := 2) (w := 40) (fun d hd => by
  rcases List.mem_cons.mp hd with rfl | hd
  · exact h1
  · rw [List.mem_singleton.mp hd]
    exact h2) (Nat.le_refl 2)
theorem sm_ms {p : Prog} (k : Kn p) : Sml 2 249 (.tuple (p.ms.map pr)) := sm_tup (n := 3) (w := 82) (fun d hd => by
  obtain ⟨q, hq, rfl⟩ := List.mem_map.mp hd
  obtain ⟨h1, h2, h3⟩ := k.ms q hq
  obtain ⟨z, hz, e⟩ := List.mem_map.mp h3
  refine sm_pr (sm_name h1) ?_
  rw [← e]
  exact sm_name (k.st z hz).1) (by rw [List.length_map]; exact k.msL)
theorem sm_fl {p : Prog} (k : Kn p) : Sml 1 123 (.tuple (p.fl.map .str)) := sm_tup (n := 3) (w := 40) (fun d hd => by
  obtain ⟨q, hq, rfl⟩ := List.mem_map.mp hd
  exact sm_name (k.fl q hq)) (by rw [List.length_map]; exact k.flL)
theorem sm_to {p : Prog} (k : Kn p) : Sml 1 123 (.tuple (p.to.map .str)) := sm_tup (n := 3) (w := 40) (fun d hd => by
  obtain ⟨q, hq, rfl⟩ := List.mem_map.mp hd
  exact sm_name (k.to q hq)) (by rw [List.length_map]; exact k.toL)
theorem emp_map {α : Type} (f : α → D) (l : List α) : (l.map f).isEmpty = l.isEmpty := by
  cases l <;> rfl
theorem ne_of_emp {α : Type} {l : List α} (h : l.isEmpty = false) : l ≠ [] := fun e => by
  rw [e] at h
  cases h
theorem add1 (n : Nat) : (n : Int) + 1 = ((n + 1 : Nat) : Int) := by omega
theorem l_row {p : Prog} {rest : List D} {many : Nat} {own : Bool} (k : Kn p) (hm : many < 1000) :
    Tot (f__law_row [.feed, .val (.tuple (.tuple (p.st.map pr) :: .tuple (p.ms.map pr) :: .tuple (p.fl.map .str) :: .tuple (p.to.map .str) :: rest)), .val (.int many), .val (.bool own)]) fun d => ∃ q : Row, d = q.enc ∧ q.ok p many own := by
  have e1 := ne_tup (sm_ms k) (by decide)
  have e2 := ne_tup (sm_fl k) (by decide)
  have e3 := ne_tup (sm_to k) (by decide)
  rw [emp_map] at e1 e2 e3
  unfold f__law_row evF
  rw [row_split]
  unfold rowHead
  cases own with
  | true =>
    cases hms : p.ms.isEmpty <;> cases hfl : p.fl.isEmpty <;> cases hto : p.to.isEmpty <;>
    · rw [hms] at e1
      rw [hfl] at e2
      rw [hto] at e3
      simp -implicitDefEqProofs only [evSs, evS, evE, evAnd, evOr, evL, evA, evO, evC, evI, froz, thaw_nil, thaw, behind_nil, behind_int, behind_bool, behind_str, behind_none, behind_tup, behind_lst, isFeed, asB, asI, isNone_none, isNone_bool, isNone_int, isNone_str, isNone_tup, isNone_lst, mb_ret, mb_bad, mb_mb, ofO_ret, ofO_bad, List.getElem?_cons_zero, List.getElem?_cons_succ, List.cons_append, List.nil_append, List.replicate, List.length_cons, List.length_nil, List.set_cons_zero, List.set_cons_succ, bindT_nm, bindT_tp, setAll, setO, Option.map_some, Option.map_none, List.map_cons, List.map_nil, wipeR, ite_tt, ite_ft, if_true, if_false, Nat.reduceAdd, Nat.reduceSub, Bool.false_eq_true, ix_t1, ix_t2, ix_t3, e1, e2, e3, Bool.not_true, Bool.not_false, bop_add_l, lenOk, Nat.reduceLeDiff, decide_true, at_7__law_pick_2, at_7__law_draw_2]
      refine tot_mb (l_pick_l (by simp only [List.length_cons, List.length_nil]; omega) (by simp only [List.length_cons, List.length_nil]; omega)) fun d hd => ?_
      obtain ⟨w, rfl, hw⟩ : ∃ w, d = .str w ∧ Al p true w := by
        refine ⟨match d with | .str w => w | _ => "", ?_⟩
        unfold Al
        simp only [List.mem_cons, List.not_mem_nil, or_false] at hd
        have n1 := ne_of_emp (l := p.ms)
        have n2 := ne_of_emp (l := p.fl)
        have n3 := ne_of_emp (l := p.to)
        rw [hms] at n1
        rw [hfl] at n2
        rw [hto] at n3
        repeat' (rcases hd with rfl | hd)
        all_goals first | (subst hd; simp_all) | simp_all
      simp -implicitDefEqProofs only [evSs, evS, evE, evAnd, evOr, evL, evA, evO, evC, evI, froz, thaw_nil, thaw, behind_nil, behind_int, behind_bool, behind_str, behind_none, behind_tup, behind_lst, isFeed, asB, asI, isNone_none, isNone_bool, isNone_int, isNone_str, isNone_tup, isNone_lst, mb_ret, mb_bad, mb_mb, ofO_ret, ofO_bad, List.getElem?_cons_zero, List.getElem?_cons_succ, List.cons_append, List.nil_append, List.replicate, List.length_cons, List.length_nil, List.set_cons_zero, List.set_cons_succ, bindT_nm, bindT_tp, setAll, setO, Option.map_some, Option.map_none, List.map_cons, List.map_nil, wipeR, ite_tt, ite_ft, if_true, if_false, Nat.reduceAdd, Nat.reduceSub, Bool.false_eq_true, bop_add_int, add1]
      refine tot_mb (l_draw (m := many + 1) (by omega) (by omega)) fun d hd => ?_
      obtain ⟨l, rfl, hl⟩ := hd
      try simp -implicitDefEqProofs only [evSs, evS, evE, evAnd, evOr, evL, evA, evO, evC, evI, froz, thaw_nil, thaw, behind_nil, behind_int, behind_bool, behind_str, behind_none, behind_tup, behind_lst, isFeed, asB, asI, isNone_none, isNone_bool, isNone_int, isNone_str, isNone_tup, isNone_lst, mb_ret, mb_bad, mb_mb, ofO_ret, ofO_bad, List.getElem?_cons_zero, List.getElem?_cons_succ, List.cons_append, List.nil_append, List.replicate, List.length_cons, List.length_nil, List.set_cons_zero, List.set_cons_succ, bindT_nm, bindT_tp, setAll, setO, Option.map_some, Option.map_none, List.map_cons, List.map_nil, wipeR, ite_tt, ite_ft, if_true, if_false, Nat.reduceAdd, Nat.reduceSub, Bool.false_eq_true]
      refine tot_mb (row_tail k (by omega) hw) fun r hr => ?_
      obtain ⟨q, rfl, hq⟩ := hr
      exact tot_ret ⟨q, rfl, hq⟩
  | false =>
    cases hms : p.ms.isEmpty <;> cases hfl : p.fl.isEmpty <;> cases hto : p.to.isEmpty <;>
    · rw [hms] at e1
      rw [hfl] at e2
      rw [hto] at e3
      simp -implicitDefEqProofs only [evSs, evS, evE, evAnd, evOr, evL, evA, evO, evC, evI, froz, thaw_nil, thaw, behind_nil, behind_int, behind_bool, behind_str, behind_none, behind_tup, behind_lst, isFeed, asB, asI, isNone_none, isNone_bool, isNone_int, isNone_str, isNone_tup, isNone_lst, mb_ret, mb_bad, mb_mb, ofO_ret, ofO_bad, List.getElem?_cons_zero, List.getElem?_cons_succ, List.cons_append, List.nil_append, List.replicate, List.length_cons, List.length_nil, List.set_cons_zero, List.set_cons_succ, bindT_nm, bindT_tp, setAll, setO, Option.map_some, Option.map_none, List.map_cons, List.map_nil, wipeR, ite_tt, ite_ft, if_true, if_false, Nat.reduceAdd, Nat.reduceSub, Bool.false_eq_true, ix_t1, ix_t2, ix_t3, e1, e2, e3, Bool.not_true, Bool.not_false, bop_add_l, lenOk, Nat.reduceLeDiff, decide_true, at_7__law_pick_2, at_7__law_draw_2]
      refine tot_mb (l_pick_l (by simp only [List.length_cons, List.length_nil]; omega) (by simp only [List.length_cons, List.length_nil]; omega)) fun d hd => ?_
      obtain ⟨w, rfl, hw⟩ : ∃ w, d = .str w ∧ Al p false w := by
        refine ⟨match d with | .str w => w | _ => "", ?_⟩
        unfold Al
        simp only [List.mem_cons, List.not_mem_nil, or_false] at hd
        have n1 := ne_of_emp (l := p.ms)
        have n2 := ne_of_emp (l := p.fl)
        have n3 := ne_of_emp (l := p.to)
        rw [hms] at n1
        rw [hfl] at n2
        rw [hto] at n3
        repeat' (rcases hd with rfl | hd)
        all_goals first | (subst hd; simp_all) | simp_all
      simp -implicitDefEqProofs only [evSs, evS, evE, evAnd, evOr, evL, evA, evO, evC, evI, froz, thaw_nil, thaw, behind_nil, behind_int, behind_bool, behind_str, behind_none, behind_tup, behind_lst, isFeed, asB, asI, isNone_none, isNone_bool, isNone_int, isNone_str, isNone_tup, isNone_lst, mb_ret, mb_bad, mb_mb, ofO_ret, ofO_bad, List.getElem?_cons_zero, List.getElem?_cons_succ, List.cons_append, List.nil_append, List.replicate, List.length_cons, List.length_nil, List.set_cons_zero, List.set_cons_succ, bindT_nm, bindT_tp, setAll, setO, Option.map_some, Option.map_none, List.map_cons, List.map_nil, wipeR, ite_tt, ite_ft, if_true, if_false, Nat.reduceAdd, Nat.reduceSub, Bool.false_eq_true, bop_add_int, add1]
      refine tot_mb (l_draw (m := many + 1) (by omega) (by omega)) fun d hd => ?_
      obtain ⟨l, rfl, hl⟩ := hd
      try simp -implicitDefEqProofs only [evSs, evS, evE, evAnd, evOr, evL, evA, evO, evC, evI, froz, thaw_nil, thaw, behind_nil, behind_int, behind_bool, behind_str, behind_none, behind_tup, behind_lst, isFeed, asB, asI, isNone_none, isNone_bool, isNone_int, isNone_str, isNone_tup, isNone_lst, mb_ret, mb_bad, mb_mb, ofO_ret, ofO_bad, List.getElem?_cons_zero, List.getElem?_cons_succ, List.cons_append, List.nil_append, List.replicate, List.length_cons, List.length_nil, List.set_cons_zero, List.set_cons_succ, bindT_nm, bindT_tp, setAll, setO, Option.map_some, Option.map_none, List.map_cons, List.map_nil, wipeR, ite_tt, ite_ft, if_true, if_false, Nat.reduceAdd, Nat.reduceSub, Bool.false_eq_true]
      refine tot_mb (row_tail k (by omega) hw) fun r hr => ?_
      obtain ⟨q, rfl, hq⟩ := hr
      exact tot_ret ⟨q, rfl, hq⟩
end Qv.K5

namespace Qv.K5
open PySem Tx
theorem rows_of_enc {P : Row → Prop} : ∀ {ds : List D}, (∀ d ∈ ds, ∃ q : Row, d = q.enc ∧ P q) → ∃ rows : List Row, ds = rows.map Row.enc ∧ ∀ r ∈ rows, P r
  | [], _ => ⟨[], rfl, fun r h => nomatch h⟩
  | d :: r, h => by
    obtain ⟨q, rfl, hq⟩ := h d List.mem_cons_self
    obtain ⟨rows, rfl, hr⟩ := rows_of_enc fun e he => h e (List.mem_cons_of_mem _ he)
    refine ⟨q :: rows, rfl, fun x hx => ?_⟩
    rcases List.mem_cons.mp hx with rfl | hx
    · exact hq
    · exact hr x hx
theorem ok_base {p : Prog} {R : List Row} {B : List Bell} {r : Row} {m : Nat} {own : Bool} (h : r.ok p m own) : r.ok { p with rows := R, bells := B } m own := ⟨h.form, by
  have := h.fits
  cases r <;> exact this, h.upto, h.own_⟩
/-- a program that is small -/
structure Fine (N : Nat) (p : Prog) : Prop where
  ok : p.ok
  kn : Kn p
  rowsL : p.rows.length ≤ N
  bellsL : p.bells.length ≤ 3
  bellL : ∀ b ∈ p.bells, b.rows.length ≤ N
theorem program1 {p : Prog} {ls : List Str} {R : D} {c2 : C} (n2 : NO c2) (k : Kn p) (hl : ls.length ≤ 100) : Tot (forL (fun x ρ' => evSs G_41 fuel s__law_program_b1 (ρ'.set 5 (.val x))) (ls.map .str) [.feed, .val (.tuple p.kn), c2, .val R, .own [], .emp, .emp, .emp]) fun r => ∃ (bs : List Bell) (c2 c5 c6 : C), r = .nx [.feed, .val (.tuple p.kn), c2, .val R, .own (bs.map Bell.enc), c5, c6, .emp] ∧ (NO c2 ∧ NO c5 ∧ NO c6) ∧ bs.map (·.name) = ls ∧ ∀ b ∈ bs, b.rows.length ≤ 3 ∧ ∀ r ∈ b.rows, r.ok p b.rows.length false := by
  refine tot_imp (forL_tot (I := fun pre ρ => ∃ (bs : List Bell) (c2 c5 c6 : C), ρ = [.feed, .val (.tuple p.kn), c2, .val R, .own (bs.map Bell.enc), c5, c6, .emp] ∧ (NO c2 ∧ NO c5 ∧ NO c6) ∧ pre = bs.map (fun b => PyData.str b.name) ∧ ∀ b ∈ bs, b.rows.length ≤ 3 ∧ ∀ r ∈ b.rows, r.ok p b.rows.length false) ⟨[], c2, .emp, .emp, rfl, ⟨n2, no_emp, no_emp⟩, rfl, fun q h => nomatch h⟩ fun pre x post ρ e hI => ?_) fun r hr => ?_
  · obtain ⟨bs, c2, c5, c6, rfl, ⟨hc2, hc5, hc6⟩, rfl, hk⟩ := hI
    obtain ⟨m1, m2⟩ := mid e
    obtain ⟨s, hs, rfl⟩ := List.mem_map.mp m1
    rw [List.length_map, List.length_map] at m2
    have c1 : lenOk (bs.map Bell.enc).length = true := by
      rw [List.length_map]
      exact lenOk_of (by omega)
    unfold s__law_program_b1
    simp -implicitDefEqProofs only [evSs, evS, evE, evAnd, evOr, evL, evA, evO, evC, evI, froz, thaw_nil, thaw, behind_nil, behind_int, behind_bool, behind_str, behind_none, behind_tup, behind_lst, isFeed, asB, asI, isNone_none, isNone_bool, isNone_int, isNone_str, isNone_tup, isNone_lst, mb_ret, mb_bad, mb_mb, ofO_ret, ofO_bad, List.getElem?_cons_zero, List.getElem?_cons_succ, List.cons_append, List.nil_append, List.replicate, List.length_cons, List.length_nil, List.set_cons_zero, List.set_cons_succ, bindT_nm, bindT_tp, setAll, setO, Option.map_some, Option.map_none, List.map_cons, List.map_nil, wipeR, ite_tt, ite_ft, if_true, if_false, Nat.reduceAdd, Nat.reduceSub, Bool.false_eq_true, at_41__law_draw_2, at_41__law_row_4, hc2.1, hc2.2, hc6.1, hc6.2]
    refine tot_mb (l_draw (m := 4) (by omega) (by omega)) fun d hd => ?_
    obtain ⟨n, rfl, hn⟩ := hd
    have r1 : rngOk (n : Int) = true := decide_eq_true (by omega)
    simp -implicitDefEqProofs only [evSs, evS, evE, evAnd, evOr, evL, evA, evO, evC, evI, froz, thaw_nil, thaw, behind_nil, behind_int, behind_bool, behind_str, behind_none, behind_tup, behind_lst, isFeed, asB, asI, isNone_none, isNone_bool, isNone_int, isNone_str, isNone_tup, isNone_lst, mb_ret, mb_bad, mb_mb, ofO_ret, ofO_bad, List.getElem?_cons_zero, List.getElem?_cons_succ, List.cons_append, List.nil_append, List.replicate, List.length_cons, List.length_nil, List.set_cons_zero, List.set_cons_succ, bindT_nm, bindT_tp, setAll, setO, Option.map_some, Option.map_none, List.map_cons, List.map_nil, wipeR, ite_tt, ite_ft, if_true, if_false, Nat.reduceAdd, Nat.reduceSub, Bool.false_eq_true, r1, Int.toNat_natCast, hc6.1]
    refine tot_mb (compL_tot (P := fun d => ∃ q : Row, d = q.enc ∧ q.ok p n false) fun x _ => ?_) fun ds hds => ?_
    · try simp -implicitDefEqProofs only [evSs, evS, evE, evAnd, evOr, evL, evA, evO, evC, evI, froz, thaw_nil, thaw, behind_nil, behind_int, behind_bool, behind_str, behind_none, behind_tup, behind_lst, isFeed, asB, asI, isNone_none, isNone_bool, isNone_int, isNone_str, isNone_tup, isNone_lst, mb_ret, mb_bad, mb_mb, ofO_ret, ofO_bad, List.getElem?_cons_zero, List.getElem?_cons_succ, List.cons_append, List.nil_append, List.replicate, List.length_cons, List.length_nil, List.set_cons_zero, List.set_cons_succ, bindT_nm, bindT_tp, setAll, setO, Option.map_some, Option.map_none, List.map_cons, List.map_nil, wipeR, ite_tt, ite_ft, if_true, if_false, Nat.reduceAdd, Nat.reduceSub, Bool.false_eq_true, at_41__law_row_4]
      refine tot_mb (l_row (rest := []) k (by omega)) fun d hd => ?_
      exact tot_ret ⟨d, rfl, hd⟩
    obtain ⟨dl, dq⟩ := hds
    rw [rngL_len] at dl
    obtain ⟨rows, rfl, hr⟩ := rows_of_enc dq
    rw [List.length_map] at dl
    have l1 : lenOk (rows.map Row.enc).length = true := by
      rw [List.length_map]
      exact lenOk_of (by omega)
    simp -implicitDefEqProofs only [evSs, evS, evE, evAnd, evOr, evL, evA, evO, evC, evI, froz, thaw_nil, thaw, behind_nil, behind_int, behind_bool, behind_str, behind_none, behind_tup, behind_lst, isFeed, asB, asI, isNone_none, isNone_bool, isNone_int, isNone_str, isNone_tup, isNone_lst, mb_ret, mb_bad, mb_mb, ofO_ret, ofO_bad, List.getElem?_cons_zero, List.getElem?_cons_succ, List.cons_append, List.nil_append, List.replicate, List.length_cons, List.length_nil, List.set_cons_zero, List.set_cons_succ, bindT_nm, bindT_tp, setAll, setO, Option.map_some, Option.map_none, List.map_cons, List.map_nil, wipeR, ite_tt, ite_ft, if_true, if_false, Nat.reduceAdd, Nat.reduceSub, Bool.false_eq_true, l1, bi_tup_l]
    refine tot_mb (l_draw (m := 2) (by omega) (by omega)) fun d hd => ?_
    obtain ⟨k1, rfl, hk1⟩ := hd
    simp -implicitDefEqProofs only [evSs, evS, evE, evAnd, evOr, evL, evA, evO, evC, evI, froz, thaw_nil, thaw, behind_nil, behind_int, behind_bool, behind_str, behind_none, behind_tup, behind_lst, isFeed, asB, asI, isNone_none, isNone_bool, isNone_int, isNone_str, isNone_tup, isNone_lst, mb_ret, mb_bad, mb_mb, ofO_ret, ofO_bad, List.getElem?_cons_zero, List.getElem?_cons_succ, List.cons_append, List.nil_append, List.replicate, List.length_cons, List.length_nil, List.set_cons_zero, List.set_cons_succ, bindT_nm, bindT_tp, setAll, setO, Option.map_some, Option.map_none, List.map_cons, List.map_nil, wipeR, ite_tt, ite_ft, if_true, if_false, Nat.reduceAdd, Nat.reduceSub, Bool.false_eq_true, cop_eq_int]
    refine tot_mb (l_draw (m := 2) (by omega) (by omega)) fun d hd => ?_
    obtain ⟨k2, rfl, hk2⟩ := hd
    simp -implicitDefEqProofs only [evSs, evS, evE, evAnd, evOr, evL, evA, evO, evC, evI, froz, thaw_nil, thaw, behind_nil, behind_int, behind_bool, behind_str, behind_none, behind_tup, behind_lst, isFeed, asB, asI, isNone_none, isNone_bool, isNone_int, isNone_str, isNone_tup, isNone_lst, mb_ret, mb_bad, mb_mb, ofO_ret, ofO_bad, List.getElem?_cons_zero, List.getElem?_cons_succ, List.cons_append, List.nil_append, List.replicate, List.length_cons, List.length_nil, List.set_cons_zero, List.set_cons_succ, bindT_nm, bindT_tp, setAll, setO, Option.map_some, Option.map_none, List.map_cons, List.map_nil, wipeR, ite_tt, ite_ft, if_true, if_false, Nat.reduceAdd, Nat.reduceSub, Bool.false_eq_true, cop_eq_int, c1]
    refine tot_ret ⟨_, rfl, bs ++ [⟨s, (k1 : Int) == 0, (k2 : Int) == 0, rows⟩], .val (.int n), .val (.str s), .val (.tuple (rows.map Row.enc)), ?_, ⟨no_val _, no_val _, no_val _⟩, ?_, ?_⟩
    · rw [← snoc_map]
      rfl
    · rw [← snoc_map]
    · intro b hb
      rcases List.mem_append.mp hb with hb | hb
      · exact hk b hb
      · rw [List.mem_singleton.mp hb]
        refine ⟨?_, fun r hr' => ?_⟩
        · show rows.length ≤ 3
          omega
        · show r.ok p rows.length false
          rw [dl]
          exact hr r hr'
  · obtain ⟨ρ', rfl, bs, c2, c5, c6, rfl, h0, h1, h2⟩ := hr
    refine ⟨bs, c2, c5, c6, rfl, h0, (str_inj ?_).symm, h2⟩
    rw [h1, List.map_map]
    rfl
theorem l_program : Tot (f__law_program [.feed]) fun d => ∃ p : Prog, d = p.enc ∧ Fine 6 p := by
  unfold f__law_program evF s__law_program
  simp -implicitDefEqProofs only [evSs, evS, evE, evAnd, evOr, evL, evA, evO, evC, evI, froz, thaw_nil, thaw, behind_nil, behind_int, behind_bool, behind_str, behind_none, behind_tup, behind_lst, isFeed, asB, asI, isNone_none, isNone_bool, isNone_int, isNone_str, isNone_tup, isNone_lst, mb_ret, mb_bad, mb_mb, ofO_ret, ofO_bad, List.getElem?_cons_zero, List.getElem?_cons_succ, List.cons_append, List.nil_append, List.replicate, List.length_cons, List.length_nil, List.set_cons_zero, List.set_cons_succ, bindT_nm, bindT_tp, setAll, setO, Option.map_some, Option.map_none, List.map_cons, List.map_nil, wipeR, ite_tt, ite_ft, if_true, if_false, Nat.reduceAdd, Nat.reduceSub, Bool.false_eq_true, at_41__law_known_1, at_41__law_draw_2, at_41__law_row_4, at_41__law_labels_3]
  refine tot_mb l_known fun d hd => ?_
  obtain ⟨p, rfl, k⟩ := hd
  refine tot_mb (l_draw (m := 6) (by omega) (by omega)) fun d hd => ?_
  obtain ⟨n, rfl, hn⟩ := hd
  have r1 : rngOk ((1 + n : Nat) : Int) = true := decide_eq_true (by omega)
  simp -implicitDefEqProofs only [evSs, evS, evE, evAnd, evOr, evL, evA, evO, evC, evI, froz, thaw_nil, thaw, behind_nil, behind_int, behind_bool, behind_str, behind_none, behind_tup, behind_lst, isFeed, asB, asI, isNone_none, isNone_bool, isNone_int, isNone_str, isNone_tup, isNone_lst, mb_ret, mb_bad, mb_mb, ofO_ret, ofO_bad, List.getElem?_cons_zero, List.getElem?_cons_succ, List.cons_append, List.nil_append, List.replicate, List.length_cons, List.length_nil, List.set_cons_zero, List.set_cons_succ, bindT_nm, bindT_tp, setAll, setO, Option.map_some, Option.map_none, List.map_cons, List.map_nil, wipeR, ite_tt, ite_ft, if_true, if_false, Nat.reduceAdd, Nat.reduceSub, Bool.false_eq_true, bop_add_int, one_add, r1, Int.toNat_natCast]
  refine tot_mb (compL_tot (P := fun d => ∃ q : Row, d = q.enc ∧ q.ok p (1 + n) true) fun x _ => ?_) fun ds hds => ?_
  · try simp -implicitDefEqProofs only [evSs, evS, evE, evAnd, evOr, evL, evA, evO, evC, evI, froz, thaw_nil, thaw, behind_nil, behind_int, behind_bool, behind_str, behind_none, behind_tup, behind_lst, isFeed, asB, asI, isNone_none, isNone_bool, isNone_int, isNone_str, isNone_tup, isNone_lst, mb_ret, mb_bad, mb_mb, ofO_ret, ofO_bad, List.getElem?_cons_zero, List.getElem?_cons_succ, List.cons_append, List.nil_append, List.replicate, List.length_cons, List.length_nil, List.set_cons_zero, List.set_cons_succ, bindT_nm, bindT_tp, setAll, setO, Option.map_some, Option.map_none, List.map_cons, List.map_nil, wipeR, ite_tt, ite_ft, if_true, if_false, Nat.reduceAdd, Nat.reduceSub, Bool.false_eq_true, at_41__law_row_4]
    refine tot_mb (l_row (rest := []) k (by omega)) fun d hd => ?_
    exact tot_ret ⟨d, rfl, hd⟩
  obtain ⟨dl, dq⟩ := hds
  rw [rngL_len] at dl
  obtain ⟨rows, rfl, hr⟩ := rows_of_enc dq
  rw [List.length_map] at dl
  have l1 : lenOk (rows.map Row.enc).length = true := by
    rw [List.length_map]
    exact lenOk_of (by omega)
  simp -implicitDefEqProofs only [evSs, evS, evE, evAnd, evOr, evL, evA, evO, evC, evI, froz, thaw_nil, thaw, behind_nil, behind_int, behind_bool, behind_str, behind_none, behind_tup, behind_lst, isFeed, asB, asI, isNone_none, isNone_bool, isNone_int, isNone_str, isNone_tup, isNone_lst, mb_ret, mb_bad, mb_mb, ofO_ret, ofO_bad, List.getElem?_cons_zero, List.getElem?_cons_succ, List.cons_append, List.nil_append, List.replicate, List.length_cons, List.length_nil, List.set_cons_zero, List.set_cons_succ, bindT_nm, bindT_tp, setAll, setO, Option.map_some, Option.map_none, List.map_cons, List.map_nil, wipeR, ite_tt, ite_ft, if_true, if_false, Nat.reduceAdd, Nat.reduceSub, Bool.false_eq_true, l1, bi_tup_l]
  refine tot_mb (l_draw (m := 3) (by omega) (by omega)) fun d hd => ?_
  obtain ⟨k3, rfl, hk3⟩ := hd
  try simp -implicitDefEqProofs only [evSs, evS, evE, evAnd, evOr, evL, evA, evO, evC, evI, froz, thaw_nil, thaw, behind_nil, behind_int, behind_bool, behind_str, behind_none, behind_tup, behind_lst, isFeed, asB, asI, isNone_none, isNone_bool, isNone_int, isNone_str, isNone_tup, isNone_lst, mb_ret, mb_bad, mb_mb, ofO_ret, ofO_bad, List.getElem?_cons_zero, List.getElem?_cons_succ, List.cons_append, List.nil_append, List.replicate, List.length_cons, List.length_nil, List.set_cons_zero, List.set_cons_succ, bindT_nm, bindT_tp, setAll, setO, Option.map_some, Option.map_none, List.map_cons, List.map_nil, wipeR, ite_tt, ite_ft, if_true, if_false, Nat.reduceAdd, Nat.reduceSub, Bool.false_eq_true]
  refine tot_mb (l_labels (m := k3) (by omega)) fun d hd => ?_
  obtain ⟨ls, rfl, g⟩ := hd
  simp -implicitDefEqProofs only [evSs, evS, evE, evAnd, evOr, evL, evA, evO, evC, evI, froz, thaw_nil, thaw, behind_nil, behind_int, behind_bool, behind_str, behind_none, behind_tup, behind_lst, isFeed, asB, asI, isNone_none, isNone_bool, isNone_int, isNone_str, isNone_tup, isNone_lst, mb_ret, mb_bad, mb_mb, ofO_ret, ofO_bad, List.getElem?_cons_zero, List.getElem?_cons_succ, List.cons_append, List.nil_append, List.replicate, List.length_cons, List.length_nil, List.set_cons_zero, List.set_cons_succ, bindT_nm, bindT_tp, setAll, setO, Option.map_some, Option.map_none, List.map_cons, List.map_nil, wipeR, ite_tt, ite_ft, if_true, if_false, Nat.reduceAdd, Nat.reduceSub, Bool.false_eq_true, itemsOf]
  refine tot_mb (program1 (no_val _) k (by rw [g.len]; omega)) fun r hr' => ?_
  obtain ⟨bs, c2, c5, c6, rfl, ⟨hc2, hc5, hc6⟩, eb, hb⟩ := hr'
  have bl : bs.length = k3 := by rw [← g.len, ← eb, List.length_map]
  have kl : lenOk (p.kn.length + 2) = true := rfl
  simp -implicitDefEqProofs only [evSs, evS, evE, evAnd, evOr, evL, evA, evO, evC, evI, froz, thaw_nil, thaw, behind_nil, behind_int, behind_bool, behind_str, behind_none, behind_tup, behind_lst, isFeed, asB, asI, isNone_none, isNone_bool, isNone_int, isNone_str, isNone_tup, isNone_lst, mb_ret, mb_bad, mb_mb, ofO_ret, ofO_bad, List.getElem?_cons_zero, List.getElem?_cons_succ, List.cons_append, List.nil_append, List.replicate, List.length_cons, List.length_nil, List.set_cons_zero, List.set_cons_succ, bindT_nm, bindT_tp, setAll, setO, Option.map_some, Option.map_none, List.map_cons, List.map_nil, wipeR, ite_tt, ite_ft, if_true, if_false, Nat.reduceAdd, Nat.reduceSub, Bool.false_eq_true, hc2.1, hc5.1, hc6.1, List.contains_cons, List.contains_nil, Nat.reduceBEq, Bool.or_false, bi_tup_l, bop_add_t, kl]
  refine tot_ret ⟨{ p with rows := rows, bells := bs }, rfl, ?_⟩
  have asc : Asc (bs.map (·.name)) := eb ▸ g.asc
  refine ⟨⟨k.stNe, k.st, k.stA, k.ms, k.msA, k.fl, k.flA, k.to, k.toA, ?_, fun r h => ?_, fun b h => ?_, fun i x y h1 h2 => ?_, ?_⟩, ⟨k.stNe, k.st, k.stA, k.ms, k.msA, k.fl, k.flA, k.to, k.toA, k.stL, k.msL, k.flL, k.toL⟩, ?_, ?_, fun b h => ?_⟩
  · intro e
    have : rows = [] := e
    rw [this, List.length_nil] at dl
    omega
  · show r.ok _ rows.length true
    rw [dl]
    exact ok_base (hr r h)
  · obtain ⟨h1, h2⟩ := hb b h
    refine ⟨g.nm _ (eb ▸ List.mem_map.mpr ⟨b, h, rfl⟩), by omega, fun r h' => ok_base (h2 r h')⟩
  · exact asc i x.name y.name (by rw [List.getElem?_map]; show Option.map _ (bs[i]?) = _; rw [show bs[i]? = some x from h1]; rfl) (by rw [List.getElem?_map]; show Option.map _ (bs[i + 1]?) = _; rw [show bs[i + 1]? = some y from h2]; rfl)
  · exact ⟨Nat.le_trans k.msL (by decide), Nat.le_trans k.stL (by decide)⟩
  · show rows.length ≤ 6
    omega
  · show bs.length ≤ 3
    omega
  · have := (hb b h).1
    omega
end Qv.K5

namespace Qv.K5
open PySem Tx
/-! ### programs may be shown -/
def wordsOk : Bool := (["call", "set", "gone", "told", "raise", "lower", "ask", "go", "use", "wait", "end", "whole", "part", "broken", "counted", "mute", "timed"] : List Str).all fun x => PyData.strOk x && decide (x.cps.size ≤ 40)
theorem wordsOk_t : wordsOk = true := by kernel_rfl
theorem sm_word {x : Str} (h : x ∈ (["call", "set", "gone", "told", "raise", "lower", "ask", "go", "use", "wait", "end", "whole", "part", "broken", "counted", "mute", "timed"] : List Str)) : Sml 0 40 (.str x) := by
  obtain ⟨h1, h2⟩ := and2 (List.all_eq_true.mp wordsOk_t x h)
  exact sm_str h1 (of_decide_eq_true h2)
theorem or3 {x a b c : Str} (h : (decide (x = a) || (decide (x = b) || decide (x = c))) = true) : x = a ∨ x = b ∨ x = c := by
  rcases Bool.or_eq_true_iff.mp h with h | h
  · exact .inl (of_decide_eq_true h)
  · rcases Bool.or_eq_true_iff.mp h with h | h
    · exact .inr (.inl (of_decide_eq_true h))
    · exact .inr (.inr (of_decide_eq_true h))
theorem sm_answer {x : Str} (h : isAnswer x = true) : Sml 0 40 (.str x) := by
  rcases or3 h with rfl | rfl | rfl <;> exact sm_word (by simp only [List.mem_cons, true_or, or_true])
theorem sm_kind {x : Str} (h : isKind x = true) : Sml 0 40 (.str x) := by
  rcases or3 h with rfl | rfl | rfl <;> exact sm_word (by simp only [List.mem_cons, true_or, or_true])
theorem sm3 {ds : List D} (hl : ds.length ≤ 3) (h : ∀ d ∈ ds, Sml 0 40 d) : Sml 1 123 (.tuple ds) := sm_tup (n := 3) (w := 40) h hl
theorem all1 {P : D → Prop} {a : D} (h : P a) : ∀ d ∈ [a], P d := fun d hd => by
  rw [List.mem_singleton.mp hd]
  exact h
theorem allC {P : D → Prop} {a : D} {r : List D} (h : P a) (hr : ∀ d ∈ r, P d) : ∀ d ∈ a :: r, P d := fun d hd => by
  rcases List.mem_cons.mp hd with rfl | hd
  · exact h
  · exact hr d hd
theorem allN {P : D → Prop} : ∀ d ∈ ([] : List D), P d := fun d hd => nomatch hd
theorem sm_row {p : Prog} {r : Row} {m : Nat} {own : Bool} (h : r.ok p m own) (hm : m ≤ 1000) : Sml 1 123 r.enc := by
  have f := h.form
  have u := h.upto
  have sw : ∀ x : Str, x ∈ (["call", "set", "gone", "told", "raise", "lower", "ask", "go", "use", "wait", "end", "whole", "part", "broken", "counted", "mute", "timed"] : List Str) → Sml 0 40 (.str x) := fun x hx => sm_word hx
  have sl : ∀ l, r.line = some l → Sml 0 40 (.int l) := fun l e => sm_int (by have := u l e; omega)
  cases r with
  | call m => exact sm3 (Nat.le_of_ble_eq_true rfl) (allC (sw _ (by simp only [List.mem_cons, true_or, or_true])) (all1 (sm_name f.1)))
  | set m q => exact sm3 (Nat.le_of_ble_eq_true rfl) (allC (sw _ (by simp only [List.mem_cons, true_or, or_true])) (allC (sm_name f.1.1) (all1 (sm_name f.2.1))))
  | gone m l => exact sm3 (Nat.le_of_ble_eq_true rfl) (allC (sw _ (by simp only [List.mem_cons, true_or, or_true])) (allC (sm_name f.1) (all1 (sl l rfl))))
  | told a l => exact sm3 (Nat.le_of_ble_eq_true rfl) (allC (sw _ (by simp only [List.mem_cons, true_or, or_true])) (allC (sm_answer f) (all1 (sl l rfl))))
  | rais x => exact sm3 (Nat.le_of_ble_eq_true rfl) (allC (sw _ (by simp only [List.mem_cons, true_or, or_true])) (all1 (sm_name f)))
  | lower x => exact sm3 (Nat.le_of_ble_eq_true rfl) (allC (sw _ (by simp only [List.mem_cons, true_or, or_true])) (all1 (sm_name f)))
  | ask x l => exact sm3 (Nat.le_of_ble_eq_true rfl) (allC (sw _ (by simp only [List.mem_cons, true_or, or_true])) (allC (sm_name f) (all1 (sl l rfl))))
  | go l => exact sm3 (Nat.le_of_ble_eq_true rfl) (allC (sw _ (by simp only [List.mem_cons, true_or, or_true])) (all1 (sl l rfl)))
  | use x => exact sm3 (Nat.le_of_ble_eq_true rfl) (allC (sw _ (by simp only [List.mem_cons, true_or, or_true])) (all1 (sm_name f)))
  | wait x => exact sm3 (Nat.le_of_ble_eq_true rfl) (allC (sw _ (by simp only [List.mem_cons, true_or, or_true])) (all1 (sm_name f)))
  | fin => exact sm3 (Nat.le_of_ble_eq_true rfl) (all1 (sw _ (by simp only [List.mem_cons, true_or, or_true])))
theorem sm_rows {rows : List Row} {p : Prog} {m : Nat} {own : Bool} (h : ∀ r ∈ rows, r.ok p m own) (hm : m ≤ 1000) (hl : rows.length ≤ 30) : Sml 2 3720 (encRows rows) := sm_tup (n := 30) (w := 123) (fun d hd => by
  obtain ⟨r, hr, rfl⟩ := List.mem_map.mp hd
  exact sm_row (h r hr) hm) (by rw [List.length_map]; exact hl)
theorem sm_fine {N : Nat} {p : Prog} (h : Fine N p) (hN : N ≤ 30) : Sml 5 300000 p.enc := by
  have b40 : ∀ {k w : Nat} {d : D}, Sml k w d → k ≤ 2 → w ≤ 3720 → Sml 2 3720 d := fun h hk hw => sm_mono h hk hw
  have bells : Sml 4 44655 (.tuple (p.bells.map Bell.enc)) := sm_mono (sm_tup (n := 3) (w := 14884) (k := 3) (fun d hd => by
    obtain ⟨b, hb, rfl⟩ := List.mem_map.mp hd
    obtain ⟨k1, k2, k3⟩ := h.ok.bells b hb
    have hl := h.bellL b hb
    exact sm_tup (n := 4) (w := 3720) (k := 2) (allC (b40 (sm_name k1) (by omega) (by omega)) (allC (b40 (sm_bool _) (by omega) (by omega)) (allC (b40 (sm_bool _) (by omega) (by omega)) (all1 (sm_rows k3 k2 (by omega)))))) (Nat.le_of_ble_eq_true rfl)) (by rw [List.length_map]; exact h.bellsL)) (by omega) (by omega)
  have up : ∀ {k w : Nat} {d : D}, Sml k w d → k ≤ 4 → w ≤ 44655 → Sml 4 44655 d := fun h hk hw => sm_mono h hk hw
  have st : Sml 2 249 (.tuple (p.st.map pr)) := sm_tup (n := 3) (w := 82) (fun d hd => by
    obtain ⟨q, hq, rfl⟩ := List.mem_map.mp hd
    exact sm_pr (sm_name (h.kn.st q hq).1) (sm_kind (h.kn.st q hq).2)) (by rw [List.length_map]; exact h.kn.stL)
  have rw_ : Sml 2 3720 (encRows p.rows) := sm_rows h.ok.rows (by have := h.rowsL; omega) (by have := h.rowsL; omega)
  exact sm_mono (sm_tup (n := 6) (w := 44655) (k := 4) (allC (up st (by omega) (by omega)) (allC (up (sm_ms h.kn) (by omega) (by omega)) (allC (up (sm_fl h.kn) (by omega) (by omega)) (allC (up (sm_to h.kn) (by omega) (by omega)) (allC (up rw_ (by omega) (by omega)) (all1 bells)))))) (Nat.le_of_ble_eq_true rfl)) (by omega) (by omega)
theorem repr_sml {ds : List D} {k w : Nat} (h : Sml k w (.tuple ds)) (hk : k ≤ 60) (hw : w ≤ 2 ^ 20) : bi .repr [.tuple ds] = some (.str (PyData.shown (.tuple ds))) := by
  have o : reprOk (.tuple ds) = true := by
    unfold reprOk
    have l0 : PyData.layable0 (.tuple ds) = true := by
      unfold PyData.layable0
      rw [h.lay, decide_eq_true (Nat.le_trans h.dep (by omega)), decide_eq_true (Nat.le_trans h.wt hw)]
      rfl
    have l1 := PyData.shown_le_of_layable0 l0 h.shrt
    rw [h.show_, PyData.hasDict_of_canLay _ h.lay, decide_eq_true (Nat.le_trans h.dep hk), decide_eq_true (Nat.le_trans l1 (by decide))]
    rfl
  show (if reprOk (.tuple ds) = true then some (PyData.str (PyData.shown (.tuple ds))) else none) = _
  rw [if_pos o]
theorem repr_fine {N : Nat} {p : Prog} (h : Fine N p) (hN : N ≤ 30) : bi .repr [p.enc] = some (.str p.enc.shown) := repr_sml (sm_fine h hN) (by decide) (by decide)
end Qv.K5

namespace Qv.K5
open PySem Tx
/-! ### lists of rows, put and taken -/
theorem bells_head : ∀ {l : List Bell} {a : Bell}, (∀ (i : Nat) (x y : Bell), (a :: l)[i]? = some x → (a :: l)[i + 1]? = some y → ltS x.name y.name = true) → ∀ q ∈ l, ltS a.name q.name = true
  | [], _, _, _, h => nomatch h
  | b :: r, a, h, q, hq => by
    have h1 : ltS a.name b.name = true := h 0 a b rfl rfl
    rcases List.mem_cons.mp hq with rfl | hq
    · exact h1
    · exact ltS_trans h1 (bells_head (fun i x y e1 e2 => h (i + 1) x y e1 e2) q hq)
theorem bell_found : ∀ {l : List Bell}, (∀ (i : Nat) (x y : Bell), l[i]? = some x → l[i + 1]? = some y → ltS x.name y.name = true) → ∀ b ∈ l, (((l.filter fun c => decide (c.name = b.name)).map (·.rows)).head?).getD [] = b.rows
  | [], _, _, h => nomatch h
  | a :: r, h, b, hb => by
    rw [List.filter_cons]
    rcases List.mem_cons.mp hb with rfl | hb
    · rw [decide_eq_true rfl]
      rfl
    · have h1 := bells_head h b hb
      have h2 : ¬ a.name = b.name := fun e => by
        rw [e, ltS_irr] at h1
        cases h1
      rw [decide_eq_false h2]
      exact bell_found (fun i x y e1 e2 => h (i + 1) x y e1 e2) b hb
theorem swap_name (x : Str) (R : List Row) (b : Bell) : (Bell.swap x R b).name = b.name := by
  unfold Bell.swap
  by_cases h : b.name = x
  · rw [if_pos h]
  · rw [if_neg h]
theorem with_names (p : Prog) (ring : Option Str) (R : List Row) : (p.withList ring R).bells.map (·.name) = p.bells.map (·.name) := by
  cases ring with
  | none => rfl
  | some x =>
    show (p.bells.map (Bell.swap x R)).map (·.name) = _
    rw [List.map_map]
    exact List.map_congr_left fun b _ => swap_name x R b
theorem has_names {p : Prog} {ring : Option Str} : p.has ring ↔ ∀ x, ring = some x → x ∈ p.bells.map (·.name) := by
  cases ring with
  | none => exact ⟨fun _ x e => (nomatch e), fun _ => trivial⟩
  | some x =>
    constructor
    · intro h y e
      cases e
      obtain ⟨b, h1, h2⟩ := h
      exact List.mem_map.mpr ⟨b, h1, h2⟩
    · intro h
      obtain ⟨b, h1, h2⟩ := List.mem_map.mp (h x rfl)
      exact ⟨b, h1, h2⟩
theorem has_with {p : Prog} {ring : Option Str} {R : List Row} (h : p.has ring) : (p.withList ring R).has ring := by
  rw [has_names] at h ⊢
  rw [with_names]
  exact h
theorem filter_swap {x : Str} {R : List Row} : ∀ {l : List Bell}, (∃ b ∈ l, b.name = x) → ((((l.map (Bell.swap x R)).filter fun c => decide (c.name = x)).map (·.rows)).head?).getD [] = R
  | [], h => by
    obtain ⟨b, h, _⟩ := h
    cases h
  | a :: r, h => by
    rw [List.map_cons, List.filter_cons, swap_name]
    by_cases e : a.name = x
    · rw [decide_eq_true e, if_pos rfl]
      unfold Bell.swap
      rw [if_pos e]
      rfl
    · rw [decide_eq_false e, if_neg Bool.false_ne_true]
      refine filter_swap ?_
      obtain ⟨b, h1, h2⟩ := h
      rcases List.mem_cons.mp h1 with rfl | h1
      · exact absurd h2 e
      · exact ⟨b, h1, h2⟩
theorem list_with {p : Prog} {ring : Option Str} {R : List Row} (h : p.has ring) : (p.withList ring R).list ring = R := by
  cases ring with
  | none => rfl
  | some x => exact filter_swap h
theorem with_with {p : Prog} {ring : Option Str} {R : List Row} (h : p.ok) : (p.withList ring R).withList ring (p.list ring) = p := by
  cases ring with
  | none => rfl
  | some x =>
    have e : (p.bells.map (Bell.swap x R)).map (Bell.swap x (p.list (some x))) = p.bells := by
      rw [List.map_map]
      have : ∀ b ∈ p.bells, (Bell.swap x (p.list (some x)) ∘ Bell.swap x R) b = b := fun b hb => by
        show Bell.swap x _ (Bell.swap x R b) = b
        unfold Bell.swap
        by_cases e : b.name = x
        · rw [if_pos e]
          show (if b.name = x then _ else _) = b
          rw [if_pos e]
          have hf := bell_found h.bellsA b hb
          rw [e] at hf
          have hf2 : p.list (some x) = b.rows := hf
          rw [hf2]
        · rw [if_neg e]
          show (if b.name = x then _ else _) = b
          rw [if_neg e]
      rw [List.map_congr_left this, List.map_id']
    show ({ p with bells := (p.bells.map (Bell.swap x R)).map (Bell.swap x (p.list (some x))) } : Prog) = p
    rw [e]
theorem list_ok {p : Prog} (h : p.ok) (ring : Option Str) (hr : p.has ring) : ∀ r ∈ p.list ring, r.ok p (p.list ring).length ring.isNone := by
  cases ring with
  | none => exact h.rows
  | some x =>
    obtain ⟨b, h1, rfl⟩ := hr
    have hf : p.list (some b.name) = b.rows := bell_found h.bellsA b h1
    rw [hf]
    exact (h.bells b h1).2.2
theorem list_len {N : Nat} {p : Prog} (h : Fine N p) (ring : Option Str) (hr : p.has ring) : (p.list ring).length ≤ N := by
  cases ring with
  | none => exact h.rowsL
  | some x =>
    obtain ⟨b, h1, rfl⟩ := hr
    have hf : p.list (some b.name) = b.rows := bell_found h.ok.bellsA b h1
    rw [hf]
    exact h.bellL b h1
theorem kn_with {p : Prog} {ring : Option Str} {R : List Row} (k : Kn p) : Kn (p.withList ring R) := by
  cases ring <;> exact ⟨k.stNe, k.st, k.stA, k.ms, k.msA, k.fl, k.flA, k.to, k.toA, k.stL, k.msL, k.flL, k.toL⟩
theorem fine_with {N M : Nat} {p : Prog} {ring : Option Str} {R : List Row} (h : Fine N p) (ok : (p.withList ring R).ok) (hM : N ≤ M) (hR : R.length ≤ M) : Fine M (p.withList ring R) := by
  refine ⟨ok, kn_with h.kn, ?_, ?_, ?_⟩
  · cases ring with
    | none => exact hR
    | some x => exact Nat.le_trans h.rowsL hM
  · cases ring with
    | none => exact h.bellsL
    | some x =>
      show (p.bells.map (Bell.swap x R)).length ≤ 3
      rw [List.length_map]
      exact h.bellsL
  · cases ring with
    | none => exact fun b hb => Nat.le_trans (h.bellL b hb) hM
    | some x =>
      intro b hb
      obtain ⟨c, hc, rfl⟩ := List.mem_map.mp (show b ∈ p.bells.map (Bell.swap x R) from hb)
      unfold Bell.swap
      by_cases e : c.name = x
      · rw [if_pos e]
        exact hR
      · rw [if_neg e]
        exact Nat.le_trans (h.bellL c hc) hM
theorem upto_of {p : Prog} {ring : Option Str} (h : ∀ r ∈ p.list ring, r.ok p (p.list ring).length ring.isNone) : ∀ q ∈ p.list ring, ∀ l, q.line = some l → l ≤ (p.list ring).length := fun q hq l hl => (h q hq).upto l hl
theorem isNone_ring (ring : Option Str) : isNone (ringD ring) = ring.isNone := by
  cases ring <;> rfl
end Qv.K5

namespace Qv.K5
open PySem Tx
theorem l_step {N : Nat} {p : Prog} {ring : Option Str} (h : Fine N p) (hN : N < 29) (hr : p.has ring) :
    Tot (f__law_is_step_right [.feed, .val p.enc, .val (ringD ring)]) fun d => ∃ q : Prog, d = q.enc ∧ Fine (N + 1) q ∧ q.bells.map (·.name) = p.bells.map (·.name) := by
  have hb : p.bells.length ≤ 1000 := Nat.le_trans h.bellsL (by decide)
  have ok := list_ok h.ok ring hr
  have ln := list_len h ring hr
  have e1 := l_rows_of hr hb
  have e2 := isNone_ring ring
  unfold encRows at e1
  unfold f__law_is_step_right evF s__law_is_step_right
  simp -implicitDefEqProofs only [evSs, evS, evE, evAnd, evOr, evL, evA, evO, evC, evI, froz, thaw_nil, thaw, behind_nil, behind_int, behind_bool, behind_str, behind_none, behind_tup, behind_lst, isFeed, asB, asI, isNone_none, isNone_bool, isNone_int, isNone_str, isNone_tup, isNone_lst, mb_ret, mb_bad, mb_mb, ofO_ret, ofO_bad, List.getElem?_cons_zero, List.getElem?_cons_succ, List.cons_append, List.nil_append, List.replicate, List.length_cons, List.length_nil, List.set_cons_zero, List.set_cons_succ, bindT_nm, bindT_tp, setAll, setO, Option.map_some, Option.map_none, List.map_cons, List.map_nil, wipeR, ite_tt, ite_ft, if_true, if_false, Nat.reduceAdd, Nat.reduceSub, Bool.false_eq_true, at_36__law_rows_of_2, e1, at_36__law_draw_2, at_36__law_row_4, at_36__law_put_3, at_36__law_put_in_3, at_36_with_row_bell, at_36_without_row_bell, bi_len_t, List.length_map, bop_add_int, add1, e2]
  refine tot_mb (l_draw (m := (p.list ring).length + 1) (by omega) (by omega)) fun d hd => ?_
  obtain ⟨k, rfl, hk⟩ := hd
  refine tot_mb (l_row (p := p) (rest := [encRows p.rows, .tuple (p.bells.map Bell.enc)]) (many := (p.list ring).length + 1) (own := ring.isNone) h.kn (by omega)) fun d hd => ?_
  obtain ⟨r, rfl, hrow⟩ := hd
  have w1 := n_with_row (k := k) (r := r) h.ok hr hb (by omega) (by omega) hrow
  have okI := putIn_ok (k := k) (r := r) (by omega) ok hrow
  have lenI := putIn_len (rows := p.list ring) (k := k) (r := r) (by omega)
  have okW : (p.withList ring (putIn (p.list ring) k r)).ok := with_ok h.ok (fun _ e => by rw [e, List.length_nil] at lenI; omega) (by omega) okI
  have fineW : Fine (N + 1) (p.withList ring (putIn (p.list ring) k r)) := fine_with h okW (by omega) (by omega)
  have hasW : (p.withList ring (putIn (p.list ring) k r)).has ring := has_with hr
  have lw := list_with (R := putIn (p.list ring) k r) hr
  have w2 := n_without_row (p := p.withList ring (putIn (p.list ring) k r)) (ring := ring) (k := k) okW hasW (Nat.le_trans fineW.bellsL (by decide)) (by rw [lw, lenI]; omega) (by rw [lw, lenI]; omega) (fun e => by
    rw [lw, lenI]
    have : 0 < (p.list ring).length := by
      rw [e]
      exact List.length_pos_iff.mpr h.ok.rowsNe
    omega)
  rw [lw, out_in _ _ _ (by omega), with_with h.ok] at w2
  have i1 := l_put_in (w := k) (r := r) (by omega) (by omega) (upto_of ok) (fun l hl => hrow.upto l hl)
  have i2 := l_put (p := p) (ring := ring) (rows := putIn (p.list ring) k r) hb
  unfold encRows at i1
  have s1 := repr_fine fineW (by omega)
  have s2 := repr_fine h (by omega)
  simp -implicitDefEqProofs only [evSs, evS, evE, evAnd, evOr, evL, evA, evO, evC, evI, froz, thaw_nil, thaw, behind_nil, behind_int, behind_bool, behind_str, behind_none, behind_tup, behind_lst, isFeed, asB, asI, isNone_none, isNone_bool, isNone_int, isNone_str, isNone_tup, isNone_lst, mb_ret, mb_bad, mb_mb, ofO_ret, ofO_bad, List.getElem?_cons_zero, List.getElem?_cons_succ, List.cons_append, List.nil_append, List.replicate, List.length_cons, List.length_nil, List.set_cons_zero, List.set_cons_succ, bindT_nm, bindT_tp, setAll, setO, Option.map_some, Option.map_none, List.map_cons, List.map_nil, wipeR, ite_tt, ite_ft, if_true, if_false, Nat.reduceAdd, Nat.reduceSub, Bool.false_eq_true, w1, w2, i1, i2, s1, s2, cop_ne_str, cop_eq_str, decide_true, Bool.not_true]
  exact tot_ret ⟨_, rfl, fineW, with_names _ _ _⟩
end Qv.K5

namespace Qv.K5
open PySem Tx
theorem ring_of {names : List Str} {d : D} (h : d ∈ PyData.none :: PyData.none :: names.map PyData.str) : ∃ ring : Option Str, d = ringD ring ∧ ∀ x, ring = some x → x ∈ names := by
  rcases List.mem_cons.mp h with rfl | h
  · exact ⟨none, rfl, fun x e => nomatch e⟩
  rcases List.mem_cons.mp h with rfl | h
  · exact ⟨none, rfl, fun x e => nomatch e⟩
  obtain ⟨x, hx, rfl⟩ := List.mem_map.mp h
  exact ⟨some x, rfl, fun y e => by cases e; exact hx⟩
def Inv (n : Nat) (ρ : Rho) : Prop := ∃ (p : Prog) (c2 c5 c6 c7 c8 c9 : C), Fine (6 + n) p ∧ (NO c2 ∧ NO c5 ∧ NO c6 ∧ NO c7 ∧ NO c8 ∧ NO c9) ∧ ρ = [.emp, .feed, c2, .val p.enc, .val (.list (.none :: .none :: (p.bells.map (·.name)).map .str)), c5, c6, c7, c8, c9, .emp]
theorem inv_mk {n : Nat} {p : Prog} {names : List Str} {c2 c5 c6 c7 c8 c9 : C} (h : Fine (6 + n) p) (e : p.bells.map (·.name) = names) (n2 : NO c2) (n5 : NO c5) (n6 : NO c6) (n7 : NO c7) (n8 : NO c8) (n9 : NO c9) : Inv n [.emp, .feed, c2, .val p.enc, .val (.list (.none :: .none :: names.map .str)), c5, c6, c7, c8, c9, .emp] := ⟨p, c2, c5, c6, c7, c8, c9, h, ⟨n2, n5, n6, n7, n8, n9⟩, by rw [e]⟩
theorem law_turn {n : Nat} {ρ : Rho} {x : D} (hn : n < 6) (hI : Inv n ρ) : Tot (evSs G_42 fuel s_law_b1 (ρ.set 5 (.val x))) fun r => ∃ ρ', r = .nx ρ' ∧ Inv (n + 1) ρ' := by
  obtain ⟨p, c2, c5, c6, c7, c8, c9, h, ⟨n2, n5, n6, n7, n8, n9⟩, rfl⟩ := hI
  have hb : p.bells.length ≤ 1000 := Nat.le_trans h.bellsL (by decide)
  have nl : (p.bells.map (·.name)).length ≤ 3 := by
    rw [List.length_map]
    exact h.bellsL
  have hn0 := @has_names p
  generalize hnm0 : p.bells.map (·.name) = names at nl hn0
  unfold s_law_b1
  simp -implicitDefEqProofs only [evSs, evS, evE, evAnd, evOr, evL, evA, evO, evC, evI, froz, thaw_nil, thaw, behind_nil, behind_int, behind_bool, behind_str, behind_none, behind_tup, behind_lst, isFeed, asB, asI, isNone_none, isNone_bool, isNone_int, isNone_str, isNone_tup, isNone_lst, mb_ret, mb_bad, mb_mb, ofO_ret, ofO_bad, List.getElem?_cons_zero, List.getElem?_cons_succ, List.cons_append, List.nil_append, List.replicate, List.length_cons, List.length_nil, List.set_cons_zero, List.set_cons_succ, bindT_nm, bindT_tp, setAll, setO, Option.map_some, Option.map_none, List.map_cons, List.map_nil, wipeR, ite_tt, ite_ft, if_true, if_false, Nat.reduceAdd, Nat.reduceSub, Bool.false_eq_true, at_42__law_pick_2, at_42__law_rows_of_2, at_42__law_draw_2, at_42__law_is_step_right_3, at_42__law_put_3, at_42__law_left_out_2, at_42_without_row_bell, n2.1, n2.2, n6.1, n6.2, n7.1, n7.2, n8.1, n8.2, n9.1, n9.2]
  refine tot_mb (l_pick_l (xs := .none :: .none :: names.map .str) (by rw [List.length_cons]; omega) (by rw [List.length_cons, List.length_cons, List.length_map]; omega)) fun d hd => ?_
  obtain ⟨ring, rfl, hring⟩ := ring_of hd
  have hr : p.has ring := hn0.mpr hring
  have ok := list_ok h.ok ring hr
  have ln := list_len h ring hr
  have e1 := l_rows_of hr hb
  have e2 := isNone_ring ring
  unfold encRows at e1
  simp -implicitDefEqProofs only [evSs, evS, evE, evAnd, evOr, evL, evA, evO, evC, evI, froz, thaw_nil, thaw, behind_nil, behind_int, behind_bool, behind_str, behind_none, behind_tup, behind_lst, isFeed, asB, asI, isNone_none, isNone_bool, isNone_int, isNone_str, isNone_tup, isNone_lst, mb_ret, mb_bad, mb_mb, ofO_ret, ofO_bad, List.getElem?_cons_zero, List.getElem?_cons_succ, List.cons_append, List.nil_append, List.replicate, List.length_cons, List.length_nil, List.set_cons_zero, List.set_cons_succ, bindT_nm, bindT_tp, setAll, setO, Option.map_some, Option.map_none, List.map_cons, List.map_nil, wipeR, ite_tt, ite_ft, if_true, if_false, Nat.reduceAdd, Nat.reduceSub, Bool.false_eq_true, e1, n2.1, n2.2, n6.1, n6.2, n7.1, n7.2, n8.1, n8.2, n9.1, n9.2]
  refine tot_mb (l_draw (m := 3) (by omega) (by omega)) fun d hd => ?_
  obtain ⟨k, rfl, hk⟩ := hd
  simp -implicitDefEqProofs only [evSs, evS, evE, evAnd, evOr, evL, evA, evO, evC, evI, froz, thaw_nil, thaw, behind_nil, behind_int, behind_bool, behind_str, behind_none, behind_tup, behind_lst, isFeed, asB, asI, isNone_none, isNone_bool, isNone_int, isNone_str, isNone_tup, isNone_lst, mb_ret, mb_bad, mb_mb, ofO_ret, ofO_bad, List.getElem?_cons_zero, List.getElem?_cons_succ, List.cons_append, List.nil_append, List.replicate, List.length_cons, List.length_nil, List.set_cons_zero, List.set_cons_succ, bindT_nm, bindT_tp, setAll, setO, Option.map_some, Option.map_none, List.map_cons, List.map_nil, wipeR, ite_tt, ite_ft, if_true, if_false, Nat.reduceAdd, Nat.reduceSub, Bool.false_eq_true, cop_gt_int, bi_len_t, List.length_map, bi_int_b, cop_eq_int, e2]
  cases hd0 : decide ((0 : Int) < (k : Int)) with
  | true =>
    simp -implicitDefEqProofs only [evSs, evS, evE, evAnd, evOr, evL, evA, evO, evC, evI, froz, thaw_nil, thaw, behind_nil, behind_int, behind_bool, behind_str, behind_none, behind_tup, behind_lst, isFeed, asB, asI, isNone_none, isNone_bool, isNone_int, isNone_str, isNone_tup, isNone_lst, mb_ret, mb_bad, mb_mb, ofO_ret, ofO_bad, List.getElem?_cons_zero, List.getElem?_cons_succ, List.cons_append, List.nil_append, List.replicate, List.length_cons, List.length_nil, List.set_cons_zero, List.set_cons_succ, bindT_nm, bindT_tp, setAll, setO, Option.map_some, Option.map_none, List.map_cons, List.map_nil, wipeR, ite_tt, ite_ft, if_true, if_false, Nat.reduceAdd, Nat.reduceSub, Bool.false_eq_true, n8.1, n8.2, n9.1, n9.2, n2.1, n2.2]
    refine tot_mb (l_step h (by omega) hr) fun d hd => ?_
    obtain ⟨q, rfl, hq, hnm⟩ := hd
    have qn : isNone q.enc = false := rfl
    simp -implicitDefEqProofs only [evSs, evS, evE, evAnd, evOr, evL, evA, evO, evC, evI, froz, thaw_nil, thaw, behind_nil, behind_int, behind_bool, behind_str, behind_none, behind_tup, behind_lst, isFeed, asB, asI, isNone_none, isNone_bool, isNone_int, isNone_str, isNone_tup, isNone_lst, mb_ret, mb_bad, mb_mb, ofO_ret, ofO_bad, List.getElem?_cons_zero, List.getElem?_cons_succ, List.cons_append, List.nil_append, List.replicate, List.length_cons, List.length_nil, List.set_cons_zero, List.set_cons_succ, bindT_nm, bindT_tp, setAll, setO, Option.map_some, Option.map_none, List.map_cons, List.map_nil, wipeR, ite_tt, ite_ft, if_true, if_false, Nat.reduceAdd, Nat.reduceSub, Bool.false_eq_true, n8.1, n8.2, n9.1, n9.2, n2.1, n2.2, qn]
    exact tot_ret ⟨_, rfl, inv_mk hq (hnm.trans hnm0) n2 (no_val _) (no_val _) (no_val _) n8 n9⟩
  | false =>
    simp -implicitDefEqProofs only [evSs, evS, evE, evAnd, evOr, evL, evA, evO, evC, evI, froz, thaw_nil, thaw, behind_nil, behind_int, behind_bool, behind_str, behind_none, behind_tup, behind_lst, isFeed, asB, asI, isNone_none, isNone_bool, isNone_int, isNone_str, isNone_tup, isNone_lst, mb_ret, mb_bad, mb_mb, ofO_ret, ofO_bad, List.getElem?_cons_zero, List.getElem?_cons_succ, List.cons_append, List.nil_append, List.replicate, List.length_cons, List.length_nil, List.set_cons_zero, List.set_cons_succ, bindT_nm, bindT_tp, setAll, setO, Option.map_some, Option.map_none, List.map_cons, List.map_nil, wipeR, ite_tt, ite_ft, if_true, if_false, Nat.reduceAdd, Nat.reduceSub, Bool.false_eq_true, n8.1, n8.2, n9.1, n9.2, n2.1, n2.2]
    cases hd1 : (((p.list ring).length : Nat) : Int) == (if ring.isNone = true then 1 else 0) with
    | true =>
      simp -implicitDefEqProofs only [evSs, evS, evE, evAnd, evOr, evL, evA, evO, evC, evI, froz, thaw_nil, thaw, behind_nil, behind_int, behind_bool, behind_str, behind_none, behind_tup, behind_lst, isFeed, asB, asI, isNone_none, isNone_bool, isNone_int, isNone_str, isNone_tup, isNone_lst, mb_ret, mb_bad, mb_mb, ofO_ret, ofO_bad, List.getElem?_cons_zero, List.getElem?_cons_succ, List.cons_append, List.nil_append, List.replicate, List.length_cons, List.length_nil, List.set_cons_zero, List.set_cons_succ, bindT_nm, bindT_tp, setAll, setO, Option.map_some, Option.map_none, List.map_cons, List.map_nil, wipeR, ite_tt, ite_ft, if_true, if_false, Nat.reduceAdd, Nat.reduceSub, Bool.false_eq_true, n8.1, n8.2, n9.1, n9.2, n2.1, n2.2]
      refine tot_mb (l_step h (by omega) hr) fun d hd => ?_
      obtain ⟨q, rfl, hq, hnm⟩ := hd
      have qn : isNone q.enc = false := rfl
      simp -implicitDefEqProofs only [evSs, evS, evE, evAnd, evOr, evL, evA, evO, evC, evI, froz, thaw_nil, thaw, behind_nil, behind_int, behind_bool, behind_str, behind_none, behind_tup, behind_lst, isFeed, asB, asI, isNone_none, isNone_bool, isNone_int, isNone_str, isNone_tup, isNone_lst, mb_ret, mb_bad, mb_mb, ofO_ret, ofO_bad, List.getElem?_cons_zero, List.getElem?_cons_succ, List.cons_append, List.nil_append, List.replicate, List.length_cons, List.length_nil, List.set_cons_zero, List.set_cons_succ, bindT_nm, bindT_tp, setAll, setO, Option.map_some, Option.map_none, List.map_cons, List.map_nil, wipeR, ite_tt, ite_ft, if_true, if_false, Nat.reduceAdd, Nat.reduceSub, Bool.false_eq_true, n8.1, n8.2, n9.1, n9.2, n2.1, n2.2, qn]
      exact tot_ret ⟨_, rfl, inv_mk hq (hnm.trans hnm0) n2 (no_val _) (no_val _) (no_val _) n8 n9⟩
    | false =>
      have hne := beq_eq_false_iff_ne.mp hd1
      have hpos : 0 < (p.list ring).length ∧ (ring = none → 1 < (p.list ring).length) := by
        cases ring with
        | none =>
          have h0 : 0 < (p.list none).length := List.length_pos_iff.mpr h.ok.rowsNe
          have h1 : (((p.list none).length : Nat) : Int) ≠ 1 := hne
          exact ⟨h0, fun _ => by omega⟩
        | some y =>
          have h1 : (((p.list (some y)).length : Nat) : Int) ≠ 0 := hne
          exact ⟨by omega, fun e => nomatch e⟩
      simp -implicitDefEqProofs only [evSs, evS, evE, evAnd, evOr, evL, evA, evO, evC, evI, froz, thaw_nil, thaw, behind_nil, behind_int, behind_bool, behind_str, behind_none, behind_tup, behind_lst, isFeed, asB, asI, isNone_none, isNone_bool, isNone_int, isNone_str, isNone_tup, isNone_lst, mb_ret, mb_bad, mb_mb, ofO_ret, ofO_bad, List.getElem?_cons_zero, List.getElem?_cons_succ, List.cons_append, List.nil_append, List.replicate, List.length_cons, List.length_nil, List.set_cons_zero, List.set_cons_succ, bindT_nm, bindT_tp, setAll, setO, Option.map_some, Option.map_none, List.map_cons, List.map_nil, wipeR, ite_tt, ite_ft, if_true, if_false, Nat.reduceAdd, Nat.reduceSub, Bool.false_eq_true, n8.1, n8.2, n9.1, n9.2, n2.1, n2.2]
      refine tot_mb (l_draw (m := (p.list ring).length) hpos.1 (by omega)) fun d hd => ?_
      obtain ⟨w, rfl, hw⟩ := hd
      have w1 := n_without_row (k := w) h.ok hr hb hw (by omega) hpos.2
      have okO := takeOut_ok hw ok
      have lenO := takeOut_len hw
      have okW : (p.withList ring (takeOut (p.list ring) w)).ok := with_ok h.ok (fun e z => by
        have := hpos.2 e
        rw [z, List.length_nil] at lenO
        omega) (by omega) okO
      have fineW : Fine (6 + (n + 1)) (p.withList ring (takeOut (p.list ring) w)) := fine_with h okW (by omega) (by omega)
      have i1 := l_left_out hw (by omega) (upto_of ok)
      have i2 := l_put (p := p) (ring := ring) (rows := takeOut (p.list ring) w) hb
      unfold encRows at i1
      have s1 := repr_fine fineW (by omega)
      simp -implicitDefEqProofs only [evSs, evS, evE, evAnd, evOr, evL, evA, evO, evC, evI, froz, thaw_nil, thaw, behind_nil, behind_int, behind_bool, behind_str, behind_none, behind_tup, behind_lst, isFeed, asB, asI, isNone_none, isNone_bool, isNone_int, isNone_str, isNone_tup, isNone_lst, mb_ret, mb_bad, mb_mb, ofO_ret, ofO_bad, List.getElem?_cons_zero, List.getElem?_cons_succ, List.cons_append, List.nil_append, List.replicate, List.length_cons, List.length_nil, List.set_cons_zero, List.set_cons_succ, bindT_nm, bindT_tp, setAll, setO, Option.map_some, Option.map_none, List.map_cons, List.map_nil, wipeR, ite_tt, ite_ft, if_true, if_false, Nat.reduceAdd, Nat.reduceSub, Bool.false_eq_true, w1, i1, i2, s1, cop_ne_str, decide_true, Bool.not_true, n8.1, n8.2, n9.1, n9.2, n2.1, n2.2]
      exact tot_ret ⟨_, rfl, inv_mk fineW ((with_names _ _ _).trans hnm0) n2 (no_val _) (no_val _) (no_val _) (no_val _) (no_val _)⟩
def Inv0 (ρ : Rho) : Prop := ∃ (c2 c3 c4 c5 c6 c7 c8 c9 : C), (NO c2 ∧ NO c3 ∧ NO c4 ∧ NO c5 ∧ NO c6 ∧ NO c7 ∧ NO c8 ∧ NO c9) ∧ ρ = [.emp, .feed, c2, c3, c4, c5, c6, c7, c8, c9, .emp]
theorem law_lap {ρ : Rho} {x : D} (hI : Inv0 ρ) : Tot (evSs G_42 fuel s_law_b2 (ρ.set 2 (.val x))) fun r => ∃ ρ', r = .nx ρ' ∧ Inv0 ρ' := by
  obtain ⟨c2, c3, c4, c5, c6, c7, c8, c9, ⟨n2, n3, n4, n5, n6, n7, n8, n9⟩, rfl⟩ := hI
  unfold s_law_b2
  simp -implicitDefEqProofs only [evSs, evS, evE, evAnd, evOr, evL, evA, evO, evC, evI, froz, thaw_nil, thaw, behind_nil, behind_int, behind_bool, behind_str, behind_none, behind_tup, behind_lst, isFeed, asB, asI, isNone_none, isNone_bool, isNone_int, isNone_str, isNone_tup, isNone_lst, mb_ret, mb_bad, mb_mb, ofO_ret, ofO_bad, List.getElem?_cons_zero, List.getElem?_cons_succ, List.cons_append, List.nil_append, List.replicate, List.length_cons, List.length_nil, List.set_cons_zero, List.set_cons_succ, bindT_nm, bindT_tp, setAll, setO, Option.map_some, Option.map_none, List.map_cons, List.map_nil, wipeR, ite_tt, ite_ft, if_true, if_false, Nat.reduceAdd, Nat.reduceSub, Bool.false_eq_true, at_42__law_program_1, n3.1, n3.2, n4.1, n4.2, n5.1, n5.2, n6.1, n6.2, n7.1, n7.2, n8.1, n8.2, n9.1, n9.2]
  refine tot_mb l_program fun d hd => ?_
  obtain ⟨p, rfl, h⟩ := hd
  have x5 : ixD p.enc (.int 5) = some (.tuple (p.bells.map Bell.enc)) := ix_t5 _ _ _ _ _ _ _
  have hb := h.bellsL
  simp -implicitDefEqProofs only [evSs, evS, evE, evAnd, evOr, evL, evA, evO, evC, evI, froz, thaw_nil, thaw, behind_nil, behind_int, behind_bool, behind_str, behind_none, behind_tup, behind_lst, isFeed, asB, asI, isNone_none, isNone_bool, isNone_int, isNone_str, isNone_tup, isNone_lst, mb_ret, mb_bad, mb_mb, ofO_ret, ofO_bad, List.getElem?_cons_zero, List.getElem?_cons_succ, List.cons_append, List.nil_append, List.replicate, List.length_cons, List.length_nil, List.set_cons_zero, List.set_cons_succ, bindT_nm, bindT_tp, setAll, setO, Option.map_some, Option.map_none, List.map_cons, List.map_nil, wipeR, ite_tt, ite_ft, if_true, if_false, Nat.reduceAdd, Nat.reduceSub, Bool.false_eq_true, x5, itemsOf, n4.1, n4.2, n5.1, n5.2, n6.1, n6.2, n7.1, n7.2, n8.1, n8.2, n9.1, n9.2]
  rw [compL_of (g := fun b : Bell => PyData.str b.name) fun b _ => by
    unfold Bell.enc
    simp -implicitDefEqProofs only [evSs, evS, evE, evAnd, evOr, evL, evA, evO, evC, evI, froz, thaw_nil, thaw, behind_nil, behind_int, behind_bool, behind_str, behind_none, behind_tup, behind_lst, isFeed, asB, asI, isNone_none, isNone_bool, isNone_int, isNone_str, isNone_tup, isNone_lst, mb_ret, mb_bad, mb_mb, ofO_ret, ofO_bad, List.getElem?_cons_zero, List.getElem?_cons_succ, List.cons_append, List.nil_append, List.replicate, List.length_cons, List.length_nil, List.set_cons_zero, List.set_cons_succ, bindT_nm, bindT_tp, setAll, setO, Option.map_some, Option.map_none, List.map_cons, List.map_nil, wipeR, ite_tt, ite_ft, if_true, if_false, Nat.reduceAdd, Nat.reduceSub, Bool.false_eq_true, ix_t0]]
  have l1 : lenOk (p.bells.map fun b => PyData.str b.name).length = true := by
    rw [List.length_map]
    exact lenOk_of (by omega)
  have l2 : lenOk (2 + (p.bells.map fun b => PyData.str b.name).length) = true := by
    rw [List.length_map]
    exact lenOk_of (by omega)
  have r6 : rngOk 6 = true := rfl
  have t6 : Int.toNat 6 = 6 := rfl
  simp -implicitDefEqProofs only [evSs, evS, evE, evAnd, evOr, evL, evA, evO, evC, evI, froz, thaw_nil, thaw, behind_nil, behind_int, behind_bool, behind_str, behind_none, behind_tup, behind_lst, isFeed, asB, asI, isNone_none, isNone_bool, isNone_int, isNone_str, isNone_tup, isNone_lst, mb_ret, mb_bad, mb_mb, ofO_ret, ofO_bad, List.getElem?_cons_zero, List.getElem?_cons_succ, List.cons_append, List.nil_append, List.replicate, List.length_cons, List.length_nil, List.set_cons_zero, List.set_cons_succ, bindT_nm, bindT_tp, setAll, setO, Option.map_some, Option.map_none, List.map_cons, List.map_nil, wipeR, ite_tt, ite_ft, if_true, if_false, Nat.reduceAdd, Nat.reduceSub, Bool.false_eq_true, l1, bop_add_l, l2, r6, t6, n4.1, n4.2, n5.1, n5.2, n6.1, n6.2, n7.1, n7.2, n8.1, n8.2, n9.1, n9.2]
  refine tot_mb (forL_tot (I := fun pre ρ => Inv pre.length ρ) ⟨p, _, _, _, _, _, _, h, ⟨no_val _, n5, n6, n7, n8, n9⟩, by rw [List.map_map]; rfl⟩ fun pre x post ρ e hI => ?_) fun r hr => ?_
  · have m2 := (mid e).2
    rw [rngL_len] at m2
    rw [List.length_append]
    exact law_turn m2 hI
  · obtain ⟨ρ', rfl, hI⟩ := hr
    obtain ⟨p, c2, c5, c6, c7, c8, c9, h, ⟨n2, n5, n6, n7, n8, n9⟩, rfl⟩ := hI
    exact tot_ret ⟨_, rfl, _, _, _, _, _, _, _, _, ⟨n2, no_val _, no_val _, n5, n6, n7, n8, n9⟩, rfl⟩
theorem law_tot : Tot (evSs G_42 fuel s_law (.emp :: .feed :: List.replicate 9 .emp)) fun r => r = .rt (.bool true) := by
  have r3 : rngOk 3 = true := rfl
  have t3 : Int.toNat 3 = 3 := rfl
  unfold s_law
  simp -implicitDefEqProofs only [evSs, evS, evE, evAnd, evOr, evL, evA, evO, evC, evI, froz, thaw_nil, thaw, behind_nil, behind_int, behind_bool, behind_str, behind_none, behind_tup, behind_lst, isFeed, asB, asI, isNone_none, isNone_bool, isNone_int, isNone_str, isNone_tup, isNone_lst, mb_ret, mb_bad, mb_mb, ofO_ret, ofO_bad, List.getElem?_cons_zero, List.getElem?_cons_succ, List.cons_append, List.nil_append, List.replicate, List.length_cons, List.length_nil, List.set_cons_zero, List.set_cons_succ, bindT_nm, bindT_tp, setAll, setO, Option.map_some, Option.map_none, List.map_cons, List.map_nil, wipeR, ite_tt, ite_ft, if_true, if_false, Nat.reduceAdd, Nat.reduceSub, Bool.false_eq_true, r3, t3]
  refine tot_mb (forL_tot (I := fun _ ρ => Inv0 ρ) ⟨_, _, _, _, _, _, _, _, ⟨no_emp, no_emp, no_emp, no_emp, no_emp, no_emp, no_emp, no_emp⟩, rfl⟩ fun pre x post ρ e hI => law_lap hI) fun r hr => ?_
  obtain ⟨ρ', rfl, hI⟩ := hr
  exact tot_ret rfl
end Qv.K5
namespace Pl
open PySem Qv
theorem plain (ns : List Int) (_ : ns.length ≤ 63) : ∃ s, Tx.law_ ⟨ns, 0, 0, 0⟩ = some (.rt (.bool true), s) := by
  obtain ⟨a, s, e, rfl⟩ := Qv.K5.law_tot ⟨ns, 0, 0, 0⟩
  exact ⟨s, e⟩
end Pl

namespace Hd
open PySem PySem.Spec PyProof.Rows L2
def top (i : Nat) : Stmt := PySem.Challenge.pw_begunanew_k05_whole_rows_in_and_out.main.body.getD i (.Pass ⟨0, 0, 0, 0⟩)
def d_is_number : He.DefD := ⟨("is_number", none), "is_number", "is_number", defArgs (top 11), defBody (top 11), defScope (top 11), [], []⟩
def d_is_name : He.DefD := ⟨("is_name", none), "is_name", "is_name", defArgs (top 12), defBody (top 12), defScope (top 12), [], []⟩
def d_stands : He.DefD := ⟨("stands", none), "stands", "stands", defArgs (top 13), defBody (top 13), defScope (top 13), [], []⟩
def d_is_row : He.DefD := ⟨("is_row", none), "is_row", "is_row", defArgs (top 14), defBody (top 14), defScope (top 14), [], []⟩
def d_is_inner_row : He.DefD := ⟨("is_inner_row", none), "is_inner_row", "is_inner_row", defArgs (top 15), defBody (top 15), defScope (top 15), [], []⟩
def d_is_bell : He.DefD := ⟨("is_bell", none), "is_bell", "is_bell", defArgs (top 16), defBody (top 16), defScope (top 16), [], []⟩
def d_line_in : He.DefD := ⟨("line_in", none), "line_in", "line_in", defArgs (top 17), defBody (top 17), defScope (top 17), [], []⟩
def d_stretch_in : He.DefD := ⟨("stretch_in", none), "stretch_in", "stretch_in", defArgs (top 18), defBody (top 18), defScope (top 18), [], []⟩
def d_fits_names : He.DefD := ⟨("fits_names", none), "fits_names", "fits_names", defArgs (top 19), defBody (top 19), defScope (top 19), [], []⟩
def d_fits_row : He.DefD := ⟨("fits_row", none), "fits_row", "fits_row", defArgs (top 20), defBody (top 20), defScope (top 20), [], []⟩
def d_is_right_pair : He.DefD := ⟨("is_right_pair", none), "is_right_pair", "is_right_pair", defArgs (top 21), defBody (top 21), defScope (top 21), [], []⟩
def d_pair_at_fault : He.DefD := ⟨("pair_at_fault", none), "pair_at_fault", "pair_at_fault", defArgs (top 22), defBody (top 22), defScope (top 22), [], []⟩
def d_name_at_fault : He.DefD := ⟨("name_at_fault", none), "name_at_fault", "name_at_fault", defArgs (top 23), defBody (top 23), defScope (top 23), [], []⟩
def d_row_at_fault : He.DefD := ⟨("row_at_fault", none), "row_at_fault", "row_at_fault", defArgs (top 24), defBody (top 24), defScope (top 24), [], []⟩
def d_bell_fault : He.DefD := ⟨("bell_fault", none), "bell_fault", "bell_fault", defArgs (top 25), defBody (top 25), defScope (top 25), [], []⟩
def d_part_fault : He.DefD := ⟨("part_fault", none), "part_fault", "part_fault", defArgs (top 26), defBody (top 26), defScope (top 26), [], []⟩
def d_program_fault : He.DefD := ⟨("program_fault", none), "program_fault", "program_fault", defArgs (top 27), defBody (top 27), defScope (top 27), [], []⟩
def d_is_program : He.DefD := ⟨("is_program", none), "is_program", "is_program", defArgs (top 28), defBody (top 28), defScope (top 28), [], []⟩
def d_want : He.DefD := ⟨("want", none), "want", "want", defArgs (top 30), defBody (top 30), defScope (top 30), [.int (-1)], []⟩
def d_want_program : He.DefD := ⟨("want_program", none), "want_program", "want_program", defArgs (top 31), defBody (top 31), defScope (top 31), [], []⟩
def d_names_of : He.DefD := ⟨("names_of", none), "names_of", "names_of", defArgs (top 32), defBody (top 32), defScope (top 32), [], []⟩
def d_is_one_of : He.DefD := ⟨("is_one_of", none), "is_one_of", "is_one_of", defArgs (top 33), defBody (top 33), defScope (top 33), [], []⟩
def d_led_on : He.DefD := ⟨("led_on", none), "led_on", "led_on", defArgs (top 35), defBody (top 35), defScope (top 35), [], []⟩
def d_list_of : He.DefD := ⟨("list_of", none), "list_of", "list_of", defArgs (top 36), defBody (top 36), defScope (top 36), [], []⟩
def d_with_list : He.DefD := ⟨("with_list", none), "with_list", "with_list", defArgs (top 37), defBody (top 37), defScope (top 37), [], []⟩
def d_with_row : He.DefD := ⟨("with_row", none), "with_row", "with_row", defArgs (top 38), defBody (top 38), defScope (top 38), [], [("bell", .non)]⟩
def d_without_row : He.DefD := ⟨("without_row", none), "without_row", "without_row", defArgs (top 39), defBody (top 39), defScope (top 39), [], [("bell", .non)]⟩
def d__law_feed : He.DefD := ⟨("_law_feed", none), "_law_feed", "_law_feed", defArgs (top 41), defBody (top 41), defScope (top 41), [], []⟩
def d__law_draw : He.DefD := ⟨("_law_draw", none), "_law_draw", "_law_draw", defArgs (top 42), defBody (top 42), defScope (top 42), [], []⟩
def d__law_pick : He.DefD := ⟨("_law_pick", none), "_law_pick", "_law_pick", defArgs (top 43), defBody (top 43), defScope (top 43), [], []⟩
def d__law_pool : He.DefD := ⟨("_law_pool", none), "_law_pool", "_law_pool", defArgs (top 44), defBody (top 44), defScope (top 44), [], []⟩
def d__law_labels : He.DefD := ⟨("_law_labels", none), "_law_labels", "_law_labels", defArgs (top 45), defBody (top 45), defScope (top 45), [], []⟩
def d__law_known : He.DefD := ⟨("_law_known", none), "_law_known", "_law_known", defArgs (top 46), defBody (top 46), defScope (top 46), [], []⟩
def d__law_row : He.DefD := ⟨("_law_row", none), "_law_row", "_law_row", defArgs (top 47), defBody (top 47), defScope (top 47), [], []⟩
def d__law_program : He.DefD := ⟨("_law_program", none), "_law_program", "_law_program", defArgs (top 48), defBody (top 48), defScope (top 48), [], []⟩
def d__law_lined : He.DefD := ⟨("_law_lined", none), "_law_lined", "_law_lined", defArgs (top 49), defBody (top 49), defScope (top 49), [], []⟩
def d__law_rows_of : He.DefD := ⟨("_law_rows_of", none), "_law_rows_of", "_law_rows_of", defArgs (top 50), defBody (top 50), defScope (top 50), [], []⟩
def d__law_put : He.DefD := ⟨("_law_put", none), "_law_put", "_law_put", defArgs (top 51), defBody (top 51), defScope (top 51), [], []⟩
def d__law_tagged : He.DefD := ⟨("_law_tagged", none), "_law_tagged", "_law_tagged", defArgs (top 52), defBody (top 52), defScope (top 52), [], []⟩
def d__law_untagged : He.DefD := ⟨("_law_untagged", none), "_law_untagged", "_law_untagged", defArgs (top 53), defBody (top 53), defScope (top 53), [], []⟩
def d__law_put_in : He.DefD := ⟨("_law_put_in", none), "_law_put_in", "_law_put_in", defArgs (top 54), defBody (top 54), defScope (top 54), [], []⟩
def d__law_left_out : He.DefD := ⟨("_law_left_out", none), "_law_left_out", "_law_left_out", defArgs (top 55), defBody (top 55), defScope (top 55), [], []⟩
def d__law_is_step_right : He.DefD := ⟨("_law_is_step_right", none), "_law_is_step_right", "_law_is_step_right", defArgs (top 56), defBody (top 56), defScope (top 56), [], []⟩
def d_law : He.DefD := ⟨("law", none), "law", "law", defArgs (top 57), defBody (top 57), defScope (top 57), [], []⟩
def fn : List He.DefD := [d__law_draw, d__law_put, d__law_lined, d__law_tagged, d__law_untagged, d__law_put_in, d__law_pick, d__law_row, d__law_rows_of, d_stretch_in, d_fits_names, d_is_name, d_is_number, d_stands, d_is_row, d_line_in, d_fits_row, d_is_one_of, d_led_on, d_list_of, d_names_of, d_want, d_is_inner_row, d_is_bell, d_row_at_fault, d_bell_fault, d_name_at_fault, d_is_right_pair, d_pair_at_fault, d_part_fault, d_program_fault, d_is_program, d_want_program, d_with_list, d_with_row, d_without_row, d__law_is_step_right, d__law_left_out, d__law_pool, d__law_labels, d__law_known, d__law_program, d_law, d__law_feed]
def fa : List He.Fa := [.glo "_law_draw", .glo "_law_put", .glo "_law_lined", .glo "_law_tagged", .glo "_law_untagged", .glo "_law_put_in", .glo "_law_pick", .glo "_law_row", .glo "_law_rows_of", .glo "stretch_in", .glo "fits_names", .glo "is_name", .glo "is_number", .glo "stands", .glo "is_row", .glo "line_in", .glo "fits_row", .glo "is_one_of", .glo "led_on", .glo "list_of", .glo "names_of", .glo "want", .glo "is_inner_row", .glo "is_bell", .glo "row_at_fault", .glo "bell_fault", .glo "name_at_fault", .glo "is_right_pair", .glo "pair_at_fault", .glo "part_fault", .glo "program_fault", .glo "is_program", .glo "want_program", .glo "with_list", .glo "with_row", .glo "without_row", .glo "_law_is_step_right", .glo "_law_left_out", .glo "_law_pool", .glo "_law_labels", .glo "_law_known", .glo "_law_program", .glo "law", .glo "_law_feed", .free "len", .free "all", .free "tuple", .free "list", .free "int", .free "str", .free "max", .free "sorted", .free "repr", .free "isinstance", .free "bool", .free "range", .free "zip", .free "enumerate", .glo "WANTS"]
def ts : List He.Tab := [(fun K => He.ga K "WANTS", ["call", "set", "gone", "told", "raise", "lower", "ask", "go", "use", "wait", "end"])]
def q (K : PySem.W.Frag) : Bool := Qv.consB K Tx.cons && Tx.tabs.all fun t => Qv.tabB K (He.ga K t.1) t.2
def loose0 : List PySem.Str := ["BegunError", "UseError", "NotUsable", "LETTERS", "STRETCH_KINDS", "PLACES", "ANSWERS", "OWN_WORDS", "WANTS", "is_number", "is_name", "stands", "is_row", "is_inner_row", "is_bell", "line_in", "stretch_in", "fits_names", "fits_row", "is_right_pair", "pair_at_fault", "name_at_fault", "row_at_fault", "bell_fault", "part_fault", "program_fault", "is_program", "want", "want_program", "names_of"]
def loose1 : List PySem.Str := ["is_one_of", "led_on", "list_of", "with_list", "with_row", "without_row", "_law_feed", "_law_draw", "_law_pick", "_law_pool", "_law_labels", "_law_known", "_law_row", "_law_program", "_law_lined", "_law_rows_of", "_law_put", "_law_tagged", "_law_untagged", "_law_put_in", "_law_left_out", "_law_is_step_right"]
def loose : List PySem.Str := loose0 ++ loose1
abbrev R : PySem.W.OpenRow := PySem.W.OpenLaw.row PySem.Challenge.rw_begunanew_k05_whole_rows_in_and_out
abbrev hk : PySem.W.Hook := Qv.hookX 4 fa fn ts q
def ob (s : PySem.W.SharedT) : He.AlT × Bool := Qv.obsX 4 fa fn ts q (HandSHeadRun.getT s)
theorem ob_eq (s : PySem.W.SharedT) : ob s = hk.obs s.abs := Qv.obsX_eq (HandSHeadRun.getT_eq s)
theorem run0 (w : World) : HandSHeadRun.RunEq R (PySem.W.view R.prog [57]) hk ob 6000 loose (w.withFollow "special-get-raises" false) := by
  intro os
  kernel_rfl
theorem run1 (w : World) : HandSHeadRun.RunEq R (PySem.W.view R.prog [57]) hk ob 6000 loose (w.withFollow "special-get-raises" true) := by
  intro os
  kernel_rfl
theorem run (w : World) : HandSHeadRun.RunEq R (PySem.W.view R.prog [57]) hk ob 6000 loose w := PySem.W.byRow2 "special-get-raises" (P := fun w => HandSHeadRun.RunEq R (PySem.W.view R.prog [57]) hk ob 6000 loose w) run0 run1 w
end Hd

namespace Ck
open PySem PySem.Spec PyProof.Rows L2 Qv
theorem c__law_draw : chkSs Tx.kL Tx.N__law_draw Hd.d__law_draw.scope Tx.s__law_draw Hd.d__law_draw.body = true := by decide +kernel
theorem sc__law_draw : FnScope Tx.N__law_draw ["_law_feed_here", "_law_many"] Hd.d__law_draw.scope := ⟨by kernel_rfl, by kernel_rfl, by kernel_rfl, by decide +kernel, by kernel_rfl, by decide +kernel, by decide +kernel⟩
theorem c__law_put : chkSs Tx.kL Tx.N__law_put Hd.d__law_put.scope Tx.s__law_put Hd.d__law_put.body = true := by decide +kernel
theorem sc__law_put : FnScope Tx.N__law_put ["_law_plan", "_law_ring", "_law_rows"] Hd.d__law_put.scope := ⟨by kernel_rfl, by kernel_rfl, by kernel_rfl, by decide +kernel, by kernel_rfl, by decide +kernel, by decide +kernel⟩
theorem c__law_lined : chkSs Tx.kL Tx.N__law_lined Hd.d__law_lined.scope Tx.s__law_lined Hd.d__law_lined.body = true := by decide +kernel
theorem sc__law_lined : FnScope Tx.N__law_lined ["_law_piece"] Hd.d__law_lined.scope := ⟨by kernel_rfl, by kernel_rfl, by kernel_rfl, by decide +kernel, by kernel_rfl, by decide +kernel, by decide +kernel⟩
theorem c__law_tagged : chkSs Tx.kL Tx.N__law_tagged Hd.d__law_tagged.scope Tx.s__law_tagged Hd.d__law_tagged.body = true := by decide +kernel
theorem sc__law_tagged : FnScope Tx.N__law_tagged ["_law_rows", "_law_tags"] Hd.d__law_tagged.scope := ⟨by kernel_rfl, by kernel_rfl, by kernel_rfl, by decide +kernel, by kernel_rfl, by decide +kernel, by decide +kernel⟩
theorem c__law_untagged : chkSs Tx.kL Tx.N__law_untagged Hd.d__law_untagged.scope Tx.s__law_untagged Hd.d__law_untagged.body = true := by decide +kernel
theorem sc__law_untagged : FnScope Tx.N__law_untagged ["_law_lot"] Hd.d__law_untagged.scope := ⟨by kernel_rfl, by kernel_rfl, by kernel_rfl, by decide +kernel, by kernel_rfl, by decide +kernel, by decide +kernel⟩
theorem c__law_put_in : chkSs Tx.kL Tx.N__law_put_in Hd.d__law_put_in.scope Tx.s__law_put_in Hd.d__law_put_in.body = true := by decide +kernel
theorem sc__law_put_in : FnScope Tx.N__law_put_in ["_law_rows", "_law_where", "_law_piece"] Hd.d__law_put_in.scope := ⟨by kernel_rfl, by kernel_rfl, by kernel_rfl, by decide +kernel, by kernel_rfl, by decide +kernel, by decide +kernel⟩
theorem c__law_pick : chkSs Tx.kL Tx.N__law_pick Hd.d__law_pick.scope Tx.s__law_pick Hd.d__law_pick.body = true := by decide +kernel
theorem sc__law_pick : FnScope Tx.N__law_pick ["_law_feed_here", "_law_some"] Hd.d__law_pick.scope := ⟨by kernel_rfl, by kernel_rfl, by kernel_rfl, by decide +kernel, by kernel_rfl, by decide +kernel, by decide +kernel⟩
theorem c__law_row : chkSs Tx.kL Tx.N__law_row Hd.d__law_row.scope Tx.s__law_row Hd.d__law_row.body = true := by decide +kernel
theorem sc__law_row : FnScope Tx.N__law_row ["_law_feed_here", "_law_known_here", "_law_many", "_law_is_own"] Hd.d__law_row.scope := ⟨by kernel_rfl, by kernel_rfl, by kernel_rfl, by decide +kernel, by kernel_rfl, by decide +kernel, by decide +kernel⟩
theorem c__law_rows_of : chkSs Tx.kL Tx.N__law_rows_of Hd.d__law_rows_of.scope Tx.s__law_rows_of Hd.d__law_rows_of.body = true := by decide +kernel
theorem sc__law_rows_of : FnScope Tx.N__law_rows_of ["_law_plan", "_law_ring"] Hd.d__law_rows_of.scope := ⟨by kernel_rfl, by kernel_rfl, by kernel_rfl, by decide +kernel, by kernel_rfl, by decide +kernel, by decide +kernel⟩
theorem c_stretch_in : chkSs Tx.kL Tx.N_stretch_in Hd.d_stretch_in.scope Tx.s_stretch_in Hd.d_stretch_in.body = true := by decide +kernel
theorem sc_stretch_in : FnScope Tx.N_stretch_in ["marks", "mark"] Hd.d_stretch_in.scope := ⟨by kernel_rfl, by kernel_rfl, by kernel_rfl, by decide +kernel, by kernel_rfl, by decide +kernel, by decide +kernel⟩
theorem c_fits_names : chkSs Tx.kL Tx.N_fits_names Hd.d_fits_names.scope Tx.s_fits_names Hd.d_fits_names.body = true := by decide +kernel
theorem sc_fits_names : FnScope Tx.N_fits_names ["program", "row"] Hd.d_fits_names.scope := ⟨by kernel_rfl, by kernel_rfl, by kernel_rfl, by decide +kernel, by kernel_rfl, by decide +kernel, by decide +kernel⟩
theorem c_is_name : chkSs Tx.kL Tx.N_is_name Hd.d_is_name.scope Tx.s_is_name Hd.d_is_name.body = true := by decide +kernel
theorem sc_is_name : FnScope Tx.N_is_name ["thing"] Hd.d_is_name.scope := ⟨by kernel_rfl, by kernel_rfl, by kernel_rfl, by decide +kernel, by kernel_rfl, by decide +kernel, by decide +kernel⟩
theorem c_is_number : chkSs Tx.kL Tx.N_is_number Hd.d_is_number.scope Tx.s_is_number Hd.d_is_number.body = true := by decide +kernel
theorem sc_is_number : FnScope Tx.N_is_number ["thing"] Hd.d_is_number.scope := ⟨by kernel_rfl, by kernel_rfl, by kernel_rfl, by decide +kernel, by kernel_rfl, by decide +kernel, by decide +kernel⟩
theorem c_stands : chkSs Tx.kL Tx.N_stands Hd.d_stands.scope Tx.s_stands Hd.d_stands.body = true := by decide +kernel
theorem sc_stands : FnScope Tx.N_stands ["want", "part", "mark"] Hd.d_stands.scope := ⟨by kernel_rfl, by kernel_rfl, by kernel_rfl, by decide +kernel, by kernel_rfl, by decide +kernel, by decide +kernel⟩
theorem c_is_row : chkSs Tx.kL Tx.N_is_row Hd.d_is_row.scope Tx.s_is_row Hd.d_is_row.body = true := by decide +kernel
theorem sc_is_row : FnScope Tx.N_is_row ["thing"] Hd.d_is_row.scope := ⟨by kernel_rfl, by kernel_rfl, by kernel_rfl, by decide +kernel, by kernel_rfl, by decide +kernel, by decide +kernel⟩
theorem c_line_in : chkSs Tx.kL Tx.N_line_in Hd.d_line_in.scope Tx.s_line_in Hd.d_line_in.body = true := by decide +kernel
theorem sc_line_in : FnScope Tx.N_line_in ["row"] Hd.d_line_in.scope := ⟨by kernel_rfl, by kernel_rfl, by kernel_rfl, by decide +kernel, by kernel_rfl, by decide +kernel, by decide +kernel⟩
theorem c_fits_row : chkSs Tx.kL Tx.N_fits_row Hd.d_fits_row.scope Tx.s_fits_row Hd.d_fits_row.body = true := by decide +kernel
theorem sc_fits_row : FnScope Tx.N_fits_row ["program", "thing", "many", "is_own"] Hd.d_fits_row.scope := ⟨by kernel_rfl, by kernel_rfl, by kernel_rfl, by decide +kernel, by kernel_rfl, by decide +kernel, by decide +kernel⟩
theorem c_is_one_of : chkSs Tx.kL Tx.N_is_one_of Hd.d_is_one_of.scope Tx.s_is_one_of Hd.d_is_one_of.body = true := by decide +kernel
theorem sc_is_one_of : FnScope Tx.N_is_one_of ["thing", "names"] Hd.d_is_one_of.scope := ⟨by kernel_rfl, by kernel_rfl, by kernel_rfl, by decide +kernel, by kernel_rfl, by decide +kernel, by decide +kernel⟩
theorem c_led_on : chkSs Tx.kL Tx.N_led_on Hd.d_led_on.scope Tx.s_led_on Hd.d_led_on.body = true := by decide +kernel
theorem sc_led_on : FnScope Tx.N_led_on ["row", "least", "by"] Hd.d_led_on.scope := ⟨by kernel_rfl, by kernel_rfl, by kernel_rfl, by decide +kernel, by kernel_rfl, by decide +kernel, by decide +kernel⟩
theorem c_list_of : chkSs Tx.kL Tx.N_list_of Hd.d_list_of.scope Tx.s_list_of Hd.d_list_of.body = true := by decide +kernel
theorem sc_list_of : FnScope Tx.N_list_of ["program", "bell"] Hd.d_list_of.scope := ⟨by kernel_rfl, by kernel_rfl, by kernel_rfl, by decide +kernel, by kernel_rfl, by decide +kernel, by decide +kernel⟩
theorem c_names_of : chkSs Tx.kL Tx.N_names_of Hd.d_names_of.scope Tx.s_names_of Hd.d_names_of.body = true := by decide +kernel
theorem sc_names_of : FnScope Tx.N_names_of ["program", "part"] Hd.d_names_of.scope := ⟨by kernel_rfl, by kernel_rfl, by kernel_rfl, by decide +kernel, by kernel_rfl, by decide +kernel, by decide +kernel⟩
theorem c_want : chkSs Tx.kL Tx.N_want Hd.d_want.scope Tx.s_want Hd.d_want.body = true := by decide +kernel
theorem sc_want : FnScope Tx.N_want ["is_right", "name", "at"] Hd.d_want.scope := ⟨by kernel_rfl, by kernel_rfl, by kernel_rfl, by decide +kernel, by kernel_rfl, by decide +kernel, by decide +kernel⟩
theorem c_is_inner_row : chkSs Tx.kL Tx.N_is_inner_row Hd.d_is_inner_row.scope Tx.s_is_inner_row Hd.d_is_inner_row.body = true := by decide +kernel
theorem sc_is_inner_row : FnScope Tx.N_is_inner_row ["thing"] Hd.d_is_inner_row.scope := ⟨by kernel_rfl, by kernel_rfl, by kernel_rfl, by decide +kernel, by kernel_rfl, by decide +kernel, by decide +kernel⟩
theorem c_is_bell : chkSs Tx.kL Tx.N_is_bell Hd.d_is_bell.scope Tx.s_is_bell Hd.d_is_bell.body = true := by decide +kernel
theorem sc_is_bell : FnScope Tx.N_is_bell ["thing"] Hd.d_is_bell.scope := ⟨by kernel_rfl, by kernel_rfl, by kernel_rfl, by decide +kernel, by kernel_rfl, by decide +kernel, by decide +kernel⟩
theorem c_row_at_fault : chkSs Tx.kL Tx.N_row_at_fault Hd.d_row_at_fault.scope Tx.s_row_at_fault Hd.d_row_at_fault.body = true := by decide +kernel
theorem sc_row_at_fault : FnScope Tx.N_row_at_fault ["program", "rows", "is_own"] Hd.d_row_at_fault.scope := ⟨by kernel_rfl, by kernel_rfl, by kernel_rfl, by decide +kernel, by kernel_rfl, by decide +kernel, by decide +kernel⟩
theorem c_bell_fault : chkSs Tx.kL Tx.N_bell_fault Hd.d_bell_fault.scope Tx.s_bell_fault Hd.d_bell_fault.body = true := by decide +kernel
theorem sc_bell_fault : FnScope Tx.N_bell_fault ["program"] Hd.d_bell_fault.scope := ⟨by kernel_rfl, by kernel_rfl, by kernel_rfl, by decide +kernel, by kernel_rfl, by decide +kernel, by decide +kernel⟩
theorem c_name_at_fault : chkSs Tx.kL Tx.N_name_at_fault Hd.d_name_at_fault.scope Tx.s_name_at_fault Hd.d_name_at_fault.body = true := by decide +kernel
theorem sc_name_at_fault : FnScope Tx.N_name_at_fault ["names"] Hd.d_name_at_fault.scope := ⟨by kernel_rfl, by kernel_rfl, by kernel_rfl, by decide +kernel, by kernel_rfl, by decide +kernel, by decide +kernel⟩
theorem c_is_right_pair : chkSs Tx.kL Tx.N_is_right_pair Hd.d_is_right_pair.scope Tx.s_is_right_pair Hd.d_is_right_pair.body = true := by decide +kernel
theorem sc_is_right_pair : FnScope Tx.N_is_right_pair ["thing", "seconds"] Hd.d_is_right_pair.scope := ⟨by kernel_rfl, by kernel_rfl, by kernel_rfl, by decide +kernel, by kernel_rfl, by decide +kernel, by decide +kernel⟩
theorem c_pair_at_fault : chkSs Tx.kL Tx.N_pair_at_fault Hd.d_pair_at_fault.scope Tx.s_pair_at_fault Hd.d_pair_at_fault.body = true := by decide +kernel
theorem sc_pair_at_fault : FnScope Tx.N_pair_at_fault ["pairs", "seconds", "barred"] Hd.d_pair_at_fault.scope := ⟨by kernel_rfl, by kernel_rfl, by kernel_rfl, by decide +kernel, by kernel_rfl, by decide +kernel, by decide +kernel⟩
theorem c_part_fault : chkSs Tx.kL Tx.N_part_fault Hd.d_part_fault.scope Tx.s_part_fault Hd.d_part_fault.body = true := by decide +kernel
theorem sc_part_fault : FnScope Tx.N_part_fault ["program", "part"] Hd.d_part_fault.scope := ⟨by kernel_rfl, by kernel_rfl, by kernel_rfl, by decide +kernel, by kernel_rfl, by decide +kernel, by decide +kernel⟩
theorem c_program_fault : chkSs Tx.kL Tx.N_program_fault Hd.d_program_fault.scope Tx.s_program_fault Hd.d_program_fault.body = true := by decide +kernel
theorem sc_program_fault : FnScope Tx.N_program_fault ["thing"] Hd.d_program_fault.scope := ⟨by kernel_rfl, by kernel_rfl, by kernel_rfl, by decide +kernel, by kernel_rfl, by decide +kernel, by decide +kernel⟩
theorem c_is_program : chkSs Tx.kL Tx.N_is_program Hd.d_is_program.scope Tx.s_is_program Hd.d_is_program.body = true := by decide +kernel
theorem sc_is_program : FnScope Tx.N_is_program ["thing"] Hd.d_is_program.scope := ⟨by kernel_rfl, by kernel_rfl, by kernel_rfl, by decide +kernel, by kernel_rfl, by decide +kernel, by decide +kernel⟩
theorem c_want_program : chkSs Tx.kL Tx.N_want_program Hd.d_want_program.scope Tx.s_want_program Hd.d_want_program.body = true := by decide +kernel
theorem sc_want_program : FnScope Tx.N_want_program ["program"] Hd.d_want_program.scope := ⟨by kernel_rfl, by kernel_rfl, by kernel_rfl, by decide +kernel, by kernel_rfl, by decide +kernel, by decide +kernel⟩
theorem c_with_list : chkSs Tx.kL Tx.N_with_list Hd.d_with_list.scope Tx.s_with_list Hd.d_with_list.body = true := by decide +kernel
theorem sc_with_list : FnScope Tx.N_with_list ["program", "bell", "rows"] Hd.d_with_list.scope := ⟨by kernel_rfl, by kernel_rfl, by kernel_rfl, by decide +kernel, by kernel_rfl, by decide +kernel, by decide +kernel⟩
theorem c_with_row : chkSs Tx.kL Tx.N_with_row Hd.d_with_row.scope Tx.s_with_row Hd.d_with_row.body = true := by decide +kernel
theorem sc_with_row : FnScope Tx.N_with_row ["program", "k", "row", "bell"] Hd.d_with_row.scope := ⟨by kernel_rfl, by kernel_rfl, by kernel_rfl, by decide +kernel, by kernel_rfl, by decide +kernel, by decide +kernel⟩
theorem c_without_row : chkSs Tx.kL Tx.N_without_row Hd.d_without_row.scope Tx.s_without_row Hd.d_without_row.body = true := by decide +kernel
theorem sc_without_row : FnScope Tx.N_without_row ["program", "k", "bell"] Hd.d_without_row.scope := ⟨by kernel_rfl, by kernel_rfl, by kernel_rfl, by decide +kernel, by kernel_rfl, by decide +kernel, by decide +kernel⟩
theorem c__law_is_step_right : chkSs Tx.kL Tx.N__law_is_step_right Hd.d__law_is_step_right.scope Tx.s__law_is_step_right Hd.d__law_is_step_right.body = true := by decide +kernel
theorem sc__law_is_step_right : FnScope Tx.N__law_is_step_right ["_law_feed_here", "_law_plan", "_law_ring"] Hd.d__law_is_step_right.scope := ⟨by kernel_rfl, by kernel_rfl, by kernel_rfl, by decide +kernel, by kernel_rfl, by decide +kernel, by decide +kernel⟩
theorem c__law_left_out : chkSs Tx.kL Tx.N__law_left_out Hd.d__law_left_out.scope Tx.s__law_left_out Hd.d__law_left_out.body = true := by decide +kernel
theorem sc__law_left_out : FnScope Tx.N__law_left_out ["_law_rows", "_law_where"] Hd.d__law_left_out.scope := ⟨by kernel_rfl, by kernel_rfl, by kernel_rfl, by decide +kernel, by kernel_rfl, by decide +kernel, by decide +kernel⟩
theorem c__law_pool : chkSs Tx.kL Tx.N__law_pool Hd.d__law_pool.scope Tx.s__law_pool Hd.d__law_pool.body = true := by decide +kernel
theorem sc__law_pool : FnScope Tx.N__law_pool [] Hd.d__law_pool.scope := ⟨by kernel_rfl, by kernel_rfl, by kernel_rfl, by decide +kernel, by kernel_rfl, by decide +kernel, by decide +kernel⟩
theorem c__law_labels : chkSs Tx.kL Tx.N__law_labels Hd.d__law_labels.scope Tx.s__law_labels Hd.d__law_labels.body = true := by decide +kernel
theorem sc__law_labels : FnScope Tx.N__law_labels ["_law_feed_here", "_law_many", "_law_is_mark"] Hd.d__law_labels.scope := ⟨by kernel_rfl, by kernel_rfl, by kernel_rfl, by decide +kernel, by kernel_rfl, by decide +kernel, by decide +kernel⟩
theorem c__law_known : chkSs Tx.kL Tx.N__law_known Hd.d__law_known.scope Tx.s__law_known Hd.d__law_known.body = true := by decide +kernel
theorem sc__law_known : FnScope Tx.N__law_known ["_law_feed_here"] Hd.d__law_known.scope := ⟨by kernel_rfl, by kernel_rfl, by kernel_rfl, by decide +kernel, by kernel_rfl, by decide +kernel, by decide +kernel⟩
theorem c__law_program : chkSs Tx.kL Tx.N__law_program Hd.d__law_program.scope Tx.s__law_program Hd.d__law_program.body = true := by decide +kernel
theorem sc__law_program : FnScope Tx.N__law_program ["_law_feed_here"] Hd.d__law_program.scope := ⟨by kernel_rfl, by kernel_rfl, by kernel_rfl, by decide +kernel, by kernel_rfl, by decide +kernel, by decide +kernel⟩
theorem c_law : lawB Tx.kL "_law_feed" "_law_script" Tx.N_law Hd.d_law.scope Tx.s_law Hd.d_law.body = true := by decide +kernel
theorem sc_law : FnScope Tx.N_law ["_law_script"] Hd.d_law.scope := ⟨by kernel_rfl, by kernel_rfl, by kernel_rfl, by decide +kernel, by kernel_rfl, by decide +kernel, by decide +kernel⟩
theorem c_feed : feedB Tx.kL "_law_script" Hd.d__law_feed.scope Hd.d__law_feed.body = true := by decide +kernel
theorem sc_feed : FnScope ["_law_script"] ["_law_script"] Hd.d__law_feed.scope := ⟨by kernel_rfl, by kernel_rfl, by kernel_rfl, by decide +kernel, by kernel_rfl, by decide +kernel, by decide +kernel⟩
end Ck

namespace En
open PySem PySem.Spec PyProof.Rows L2 Qv
theorem facts {P : Program} {w : World} {K : PySem.W.Frag} {h : Heap} {mg : Str → Option Value} {f : Addr} (X : K.In h) (G : h.Ns mainGlobals mg) (hfa : mg ("law" : Str) = some (.ref f)) (c : He.SaysT Hd.fa Hd.fn Hd.ts w K) (cq : Hd.q K = true) :
    ∃ fd : FuncData, (∀ (s : Shared) (v : Value), BindsTo s fd ⟨[v], []⟩ [("_law_script", v)]) ∧ ∀ base : Heap, K.In base → base.Ns mainGlobals mg → FnG P w K mg base CX0 44 f fd ["_law_script"] (spLaw Tx.kL K Tx.G_42 Tx.fuel Tx.N_law.length Tx.s_law) := by
  have cd := c.d
  obtain ⟨q1, q2⟩ := and2 cq
  obtain ⟨fd__law_draw, F__law_draw⟩ := cd.def_ 0 (d := Hd.d__law_draw) rfl
  have m__law_draw : mg "_law_draw" = some (.ref (He.ga K "_law_draw")) := He.glo_ok X G (cd.fact 0 (f := .glo "_law_draw") rfl)
  obtain ⟨fd__law_put, F__law_put⟩ := cd.def_ 1 (d := Hd.d__law_put) rfl
  have m__law_put : mg "_law_put" = some (.ref (He.ga K "_law_put")) := He.glo_ok X G (cd.fact 1 (f := .glo "_law_put") rfl)
  obtain ⟨fd__law_lined, F__law_lined⟩ := cd.def_ 2 (d := Hd.d__law_lined) rfl
  have m__law_lined : mg "_law_lined" = some (.ref (He.ga K "_law_lined")) := He.glo_ok X G (cd.fact 2 (f := .glo "_law_lined") rfl)
  obtain ⟨fd__law_tagged, F__law_tagged⟩ := cd.def_ 3 (d := Hd.d__law_tagged) rfl
  have m__law_tagged : mg "_law_tagged" = some (.ref (He.ga K "_law_tagged")) := He.glo_ok X G (cd.fact 3 (f := .glo "_law_tagged") rfl)
  obtain ⟨fd__law_untagged, F__law_untagged⟩ := cd.def_ 4 (d := Hd.d__law_untagged) rfl
  have m__law_untagged : mg "_law_untagged" = some (.ref (He.ga K "_law_untagged")) := He.glo_ok X G (cd.fact 4 (f := .glo "_law_untagged") rfl)
  obtain ⟨fd__law_put_in, F__law_put_in⟩ := cd.def_ 5 (d := Hd.d__law_put_in) rfl
  have m__law_put_in : mg "_law_put_in" = some (.ref (He.ga K "_law_put_in")) := He.glo_ok X G (cd.fact 5 (f := .glo "_law_put_in") rfl)
  obtain ⟨fd__law_pick, F__law_pick⟩ := cd.def_ 6 (d := Hd.d__law_pick) rfl
  have m__law_pick : mg "_law_pick" = some (.ref (He.ga K "_law_pick")) := He.glo_ok X G (cd.fact 6 (f := .glo "_law_pick") rfl)
  obtain ⟨fd__law_row, F__law_row⟩ := cd.def_ 7 (d := Hd.d__law_row) rfl
  have m__law_row : mg "_law_row" = some (.ref (He.ga K "_law_row")) := He.glo_ok X G (cd.fact 7 (f := .glo "_law_row") rfl)
  obtain ⟨fd__law_rows_of, F__law_rows_of⟩ := cd.def_ 8 (d := Hd.d__law_rows_of) rfl
  have m__law_rows_of : mg "_law_rows_of" = some (.ref (He.ga K "_law_rows_of")) := He.glo_ok X G (cd.fact 8 (f := .glo "_law_rows_of") rfl)
  obtain ⟨fd_stretch_in, F_stretch_in⟩ := cd.def_ 9 (d := Hd.d_stretch_in) rfl
  have m_stretch_in : mg "stretch_in" = some (.ref (He.ga K "stretch_in")) := He.glo_ok X G (cd.fact 9 (f := .glo "stretch_in") rfl)
  obtain ⟨fd_fits_names, F_fits_names⟩ := cd.def_ 10 (d := Hd.d_fits_names) rfl
  have m_fits_names : mg "fits_names" = some (.ref (He.ga K "fits_names")) := He.glo_ok X G (cd.fact 10 (f := .glo "fits_names") rfl)
  obtain ⟨fd_is_name, F_is_name⟩ := cd.def_ 11 (d := Hd.d_is_name) rfl
  have m_is_name : mg "is_name" = some (.ref (He.ga K "is_name")) := He.glo_ok X G (cd.fact 11 (f := .glo "is_name") rfl)
  obtain ⟨fd_is_number, F_is_number⟩ := cd.def_ 12 (d := Hd.d_is_number) rfl
  have m_is_number : mg "is_number" = some (.ref (He.ga K "is_number")) := He.glo_ok X G (cd.fact 12 (f := .glo "is_number") rfl)
  obtain ⟨fd_stands, F_stands⟩ := cd.def_ 13 (d := Hd.d_stands) rfl
  have m_stands : mg "stands" = some (.ref (He.ga K "stands")) := He.glo_ok X G (cd.fact 13 (f := .glo "stands") rfl)
  obtain ⟨fd_is_row, F_is_row⟩ := cd.def_ 14 (d := Hd.d_is_row) rfl
  have m_is_row : mg "is_row" = some (.ref (He.ga K "is_row")) := He.glo_ok X G (cd.fact 14 (f := .glo "is_row") rfl)
  obtain ⟨fd_line_in, F_line_in⟩ := cd.def_ 15 (d := Hd.d_line_in) rfl
  have m_line_in : mg "line_in" = some (.ref (He.ga K "line_in")) := He.glo_ok X G (cd.fact 15 (f := .glo "line_in") rfl)
  obtain ⟨fd_fits_row, F_fits_row⟩ := cd.def_ 16 (d := Hd.d_fits_row) rfl
  have m_fits_row : mg "fits_row" = some (.ref (He.ga K "fits_row")) := He.glo_ok X G (cd.fact 16 (f := .glo "fits_row") rfl)
  obtain ⟨fd_is_one_of, F_is_one_of⟩ := cd.def_ 17 (d := Hd.d_is_one_of) rfl
  have m_is_one_of : mg "is_one_of" = some (.ref (He.ga K "is_one_of")) := He.glo_ok X G (cd.fact 17 (f := .glo "is_one_of") rfl)
  obtain ⟨fd_led_on, F_led_on⟩ := cd.def_ 18 (d := Hd.d_led_on) rfl
  have m_led_on : mg "led_on" = some (.ref (He.ga K "led_on")) := He.glo_ok X G (cd.fact 18 (f := .glo "led_on") rfl)
  obtain ⟨fd_list_of, F_list_of⟩ := cd.def_ 19 (d := Hd.d_list_of) rfl
  have m_list_of : mg "list_of" = some (.ref (He.ga K "list_of")) := He.glo_ok X G (cd.fact 19 (f := .glo "list_of") rfl)
  obtain ⟨fd_names_of, F_names_of⟩ := cd.def_ 20 (d := Hd.d_names_of) rfl
  have m_names_of : mg "names_of" = some (.ref (He.ga K "names_of")) := He.glo_ok X G (cd.fact 20 (f := .glo "names_of") rfl)
  obtain ⟨fd_want, F_want⟩ := cd.def_ 21 (d := Hd.d_want) rfl
  have m_want : mg "want" = some (.ref (He.ga K "want")) := He.glo_ok X G (cd.fact 21 (f := .glo "want") rfl)
  obtain ⟨fd_is_inner_row, F_is_inner_row⟩ := cd.def_ 22 (d := Hd.d_is_inner_row) rfl
  have m_is_inner_row : mg "is_inner_row" = some (.ref (He.ga K "is_inner_row")) := He.glo_ok X G (cd.fact 22 (f := .glo "is_inner_row") rfl)
  obtain ⟨fd_is_bell, F_is_bell⟩ := cd.def_ 23 (d := Hd.d_is_bell) rfl
  have m_is_bell : mg "is_bell" = some (.ref (He.ga K "is_bell")) := He.glo_ok X G (cd.fact 23 (f := .glo "is_bell") rfl)
  obtain ⟨fd_row_at_fault, F_row_at_fault⟩ := cd.def_ 24 (d := Hd.d_row_at_fault) rfl
  have m_row_at_fault : mg "row_at_fault" = some (.ref (He.ga K "row_at_fault")) := He.glo_ok X G (cd.fact 24 (f := .glo "row_at_fault") rfl)
  obtain ⟨fd_bell_fault, F_bell_fault⟩ := cd.def_ 25 (d := Hd.d_bell_fault) rfl
  have m_bell_fault : mg "bell_fault" = some (.ref (He.ga K "bell_fault")) := He.glo_ok X G (cd.fact 25 (f := .glo "bell_fault") rfl)
  obtain ⟨fd_name_at_fault, F_name_at_fault⟩ := cd.def_ 26 (d := Hd.d_name_at_fault) rfl
  have m_name_at_fault : mg "name_at_fault" = some (.ref (He.ga K "name_at_fault")) := He.glo_ok X G (cd.fact 26 (f := .glo "name_at_fault") rfl)
  obtain ⟨fd_is_right_pair, F_is_right_pair⟩ := cd.def_ 27 (d := Hd.d_is_right_pair) rfl
  have m_is_right_pair : mg "is_right_pair" = some (.ref (He.ga K "is_right_pair")) := He.glo_ok X G (cd.fact 27 (f := .glo "is_right_pair") rfl)
  obtain ⟨fd_pair_at_fault, F_pair_at_fault⟩ := cd.def_ 28 (d := Hd.d_pair_at_fault) rfl
  have m_pair_at_fault : mg "pair_at_fault" = some (.ref (He.ga K "pair_at_fault")) := He.glo_ok X G (cd.fact 28 (f := .glo "pair_at_fault") rfl)
  obtain ⟨fd_part_fault, F_part_fault⟩ := cd.def_ 29 (d := Hd.d_part_fault) rfl
  have m_part_fault : mg "part_fault" = some (.ref (He.ga K "part_fault")) := He.glo_ok X G (cd.fact 29 (f := .glo "part_fault") rfl)
  obtain ⟨fd_program_fault, F_program_fault⟩ := cd.def_ 30 (d := Hd.d_program_fault) rfl
  have m_program_fault : mg "program_fault" = some (.ref (He.ga K "program_fault")) := He.glo_ok X G (cd.fact 30 (f := .glo "program_fault") rfl)
  obtain ⟨fd_is_program, F_is_program⟩ := cd.def_ 31 (d := Hd.d_is_program) rfl
  have m_is_program : mg "is_program" = some (.ref (He.ga K "is_program")) := He.glo_ok X G (cd.fact 31 (f := .glo "is_program") rfl)
  obtain ⟨fd_want_program, F_want_program⟩ := cd.def_ 32 (d := Hd.d_want_program) rfl
  have m_want_program : mg "want_program" = some (.ref (He.ga K "want_program")) := He.glo_ok X G (cd.fact 32 (f := .glo "want_program") rfl)
  obtain ⟨fd_with_list, F_with_list⟩ := cd.def_ 33 (d := Hd.d_with_list) rfl
  have m_with_list : mg "with_list" = some (.ref (He.ga K "with_list")) := He.glo_ok X G (cd.fact 33 (f := .glo "with_list") rfl)
  obtain ⟨fd_with_row, F_with_row⟩ := cd.def_ 34 (d := Hd.d_with_row) rfl
  have m_with_row : mg "with_row" = some (.ref (He.ga K "with_row")) := He.glo_ok X G (cd.fact 34 (f := .glo "with_row") rfl)
  obtain ⟨fd_without_row, F_without_row⟩ := cd.def_ 35 (d := Hd.d_without_row) rfl
  have m_without_row : mg "without_row" = some (.ref (He.ga K "without_row")) := He.glo_ok X G (cd.fact 35 (f := .glo "without_row") rfl)
  obtain ⟨fd__law_is_step_right, F__law_is_step_right⟩ := cd.def_ 36 (d := Hd.d__law_is_step_right) rfl
  have m__law_is_step_right : mg "_law_is_step_right" = some (.ref (He.ga K "_law_is_step_right")) := He.glo_ok X G (cd.fact 36 (f := .glo "_law_is_step_right") rfl)
  obtain ⟨fd__law_left_out, F__law_left_out⟩ := cd.def_ 37 (d := Hd.d__law_left_out) rfl
  have m__law_left_out : mg "_law_left_out" = some (.ref (He.ga K "_law_left_out")) := He.glo_ok X G (cd.fact 37 (f := .glo "_law_left_out") rfl)
  obtain ⟨fd__law_pool, F__law_pool⟩ := cd.def_ 38 (d := Hd.d__law_pool) rfl
  have m__law_pool : mg "_law_pool" = some (.ref (He.ga K "_law_pool")) := He.glo_ok X G (cd.fact 38 (f := .glo "_law_pool") rfl)
  obtain ⟨fd__law_labels, F__law_labels⟩ := cd.def_ 39 (d := Hd.d__law_labels) rfl
  have m__law_labels : mg "_law_labels" = some (.ref (He.ga K "_law_labels")) := He.glo_ok X G (cd.fact 39 (f := .glo "_law_labels") rfl)
  obtain ⟨fd__law_known, F__law_known⟩ := cd.def_ 40 (d := Hd.d__law_known) rfl
  have m__law_known : mg "_law_known" = some (.ref (He.ga K "_law_known")) := He.glo_ok X G (cd.fact 40 (f := .glo "_law_known") rfl)
  obtain ⟨fd__law_program, F__law_program⟩ := cd.def_ 41 (d := Hd.d__law_program) rfl
  have m__law_program : mg "_law_program" = some (.ref (He.ga K "_law_program")) := He.glo_ok X G (cd.fact 41 (f := .glo "_law_program") rfl)
  obtain ⟨fd_law, F_law⟩ := cd.def_ 42 (d := Hd.d_law) rfl
  obtain ⟨fd__law_feed, F__law_feed⟩ := cd.def_ 43 (d := Hd.d__law_feed) rfl
  have m__law_feed : mg "_law_feed" = some (.ref (He.ga K "_law_feed")) := He.glo_ok X G (cd.fact 43 (f := .glo "_law_feed") rfl)
  have el := hfa.symm.trans (He.glo_ok X G (cd.fact 42 (f := .glo "law") rfl))
  cases el
  have hb : ∀ y ∈ bltNames, mg y = none := by
    intro y hy
    simp only [bltNames, List.mem_cons, List.not_mem_nil, or_false] at hy
    rcases hy with rfl | rfl | rfl | rfl | rfl | rfl | rfl | rfl | rfl | rfl | rfl | rfl | rfl | rfl
    · exact He.free_ok X G (cd.fact 44 (f := .free "len") rfl)
    · exact He.free_ok X G (cd.fact 45 (f := .free "all") rfl)
    · exact He.free_ok X G (cd.fact 46 (f := .free "tuple") rfl)
    · exact He.free_ok X G (cd.fact 47 (f := .free "list") rfl)
    · exact He.free_ok X G (cd.fact 48 (f := .free "int") rfl)
    · exact He.free_ok X G (cd.fact 49 (f := .free "str") rfl)
    · exact He.free_ok X G (cd.fact 50 (f := .free "max") rfl)
    · exact He.free_ok X G (cd.fact 51 (f := .free "sorted") rfl)
    · exact He.free_ok X G (cd.fact 52 (f := .free "repr") rfl)
    · exact He.free_ok X G (cd.fact 53 (f := .free "isinstance") rfl)
    · exact He.free_ok X G (cd.fact 54 (f := .free "bool") rfl)
    · exact He.free_ok X G (cd.fact 55 (f := .free "range") rfl)
    · exact He.free_ok X G (cd.fact 56 (f := .free "zip") rfl)
    · exact He.free_ok X G (cd.fact 57 (f := .free "enumerate") rfl)
  have ht : ∀ t ∈ Tx.tabs, mg t.1 = some (.ref (He.ga K t.1)) ∧ tabB K (He.ga K t.1) t.2 = true ∧ ∃ es m, KDict K w (He.ga K t.1) es m := by
    intro t ht0
    have q3 := List.all_eq_true.mp q2 t ht0
    simp only [Tx.tabs, List.mem_cons, List.not_mem_nil, or_false] at ht0
    subst ht0
    · exact ⟨He.glo_ok X G (cd.fact 58 (f := .glo "WANTS") rfl), q3, c.tab 0⟩
  have b__law_draw : Binds K fd__law_draw ["_law_feed_here", "_law_many"] [] := F__law_draw.bindsN fun _ _ _ _ _ _ us hl => match us, hl with | [_, _], _ => rfl
  have b__law_put : Binds K fd__law_put ["_law_plan", "_law_ring", "_law_rows"] [] := F__law_put.bindsN fun _ _ _ _ _ _ us hl => match us, hl with | [_, _, _], _ => rfl
  have b__law_lined : Binds K fd__law_lined ["_law_piece"] [] := F__law_lined.bindsN fun _ _ _ _ _ _ us hl => match us, hl with | [_], _ => rfl
  have b__law_tagged : Binds K fd__law_tagged ["_law_rows", "_law_tags"] [] := F__law_tagged.bindsN fun _ _ _ _ _ _ us hl => match us, hl with | [_, _], _ => rfl
  have b__law_untagged : Binds K fd__law_untagged ["_law_lot"] [] := F__law_untagged.bindsN fun _ _ _ _ _ _ us hl => match us, hl with | [_], _ => rfl
  have b__law_put_in : Binds K fd__law_put_in ["_law_rows", "_law_where", "_law_piece"] [] := F__law_put_in.bindsN fun _ _ _ _ _ _ us hl => match us, hl with | [_, _, _], _ => rfl
  have b__law_pick : Binds K fd__law_pick ["_law_feed_here", "_law_some"] [] := F__law_pick.bindsN fun _ _ _ _ _ _ us hl => match us, hl with | [_, _], _ => rfl
  have b__law_row : Binds K fd__law_row ["_law_feed_here", "_law_known_here", "_law_many", "_law_is_own"] [] := F__law_row.bindsN fun _ _ _ _ _ _ us hl => match us, hl with | [_, _, _, _], _ => rfl
  have b__law_rows_of : Binds K fd__law_rows_of ["_law_plan", "_law_ring"] [] := F__law_rows_of.bindsN fun _ _ _ _ _ _ us hl => match us, hl with | [_, _], _ => rfl
  have b_stretch_in : Binds K fd_stretch_in ["marks", "mark"] [] := F_stretch_in.bindsN fun _ _ _ _ _ _ us hl => match us, hl with | [_, _], _ => rfl
  have b_fits_names : Binds K fd_fits_names ["program", "row"] [] := F_fits_names.bindsN fun _ _ _ _ _ _ us hl => match us, hl with | [_, _], _ => rfl
  have b_is_name : Binds K fd_is_name ["thing"] [] := F_is_name.bindsN fun _ _ _ _ _ _ us hl => match us, hl with | [_], _ => rfl
  have b_is_number : Binds K fd_is_number ["thing"] [] := F_is_number.bindsN fun _ _ _ _ _ _ us hl => match us, hl with | [_], _ => rfl
  have b_stands : Binds K fd_stands ["want", "part", "mark"] [] := F_stands.bindsN fun _ _ _ _ _ _ us hl => match us, hl with | [_, _, _], _ => rfl
  have b_is_row : Binds K fd_is_row ["thing"] [] := F_is_row.bindsN fun _ _ _ _ _ _ us hl => match us, hl with | [_], _ => rfl
  have b_line_in : Binds K fd_line_in ["row"] [] := F_line_in.bindsN fun _ _ _ _ _ _ us hl => match us, hl with | [_], _ => rfl
  have b_fits_row : Binds K fd_fits_row ["program", "thing", "many", "is_own"] [] := F_fits_row.bindsN fun _ _ _ _ _ _ us hl => match us, hl with | [_, _, _, _], _ => rfl
  have b_is_one_of : Binds K fd_is_one_of ["thing", "names"] [] := F_is_one_of.bindsN fun _ _ _ _ _ _ us hl => match us, hl with | [_, _], _ => rfl
  have b_led_on : Binds K fd_led_on ["row", "least", "by"] [] := F_led_on.bindsN fun _ _ _ _ _ _ us hl => match us, hl with | [_, _, _], _ => rfl
  have b_list_of : Binds K fd_list_of ["program", "bell"] [] := F_list_of.bindsN fun _ _ _ _ _ _ us hl => match us, hl with | [_, _], _ => rfl
  have b_names_of : Binds K fd_names_of ["program", "part"] [] := F_names_of.bindsN fun _ _ _ _ _ _ us hl => match us, hl with | [_, _], _ => rfl
  obtain ⟨ds_want, v_want, b_want⟩ := FunD.binds1 (ps := ["is_right", "name", "at"]) F_want 2 0 (List.cons_ne_nil _ _) rfl (fun _ _ _ _ _ _ _ us its h1 h2 => match us, its, h1, h2 with | [_, _], [_], _, _ => ⟨_, rfl, rfl⟩)
  have b_is_inner_row : Binds K fd_is_inner_row ["thing"] [] := F_is_inner_row.bindsN fun _ _ _ _ _ _ us hl => match us, hl with | [_], _ => rfl
  have b_is_bell : Binds K fd_is_bell ["thing"] [] := F_is_bell.bindsN fun _ _ _ _ _ _ us hl => match us, hl with | [_], _ => rfl
  have b_row_at_fault : Binds K fd_row_at_fault ["program", "rows", "is_own"] [] := F_row_at_fault.bindsN fun _ _ _ _ _ _ us hl => match us, hl with | [_, _, _], _ => rfl
  have b_bell_fault : Binds K fd_bell_fault ["program"] [] := F_bell_fault.bindsN fun _ _ _ _ _ _ us hl => match us, hl with | [_], _ => rfl
  have b_name_at_fault : Binds K fd_name_at_fault ["names"] [] := F_name_at_fault.bindsN fun _ _ _ _ _ _ us hl => match us, hl with | [_], _ => rfl
  have b_is_right_pair : Binds K fd_is_right_pair ["thing", "seconds"] [] := F_is_right_pair.bindsN fun _ _ _ _ _ _ us hl => match us, hl with | [_, _], _ => rfl
  have b_pair_at_fault : Binds K fd_pair_at_fault ["pairs", "seconds", "barred"] [] := F_pair_at_fault.bindsN fun _ _ _ _ _ _ us hl => match us, hl with | [_, _, _], _ => rfl
  have b_part_fault : Binds K fd_part_fault ["program", "part"] [] := F_part_fault.bindsN fun _ _ _ _ _ _ us hl => match us, hl with | [_, _], _ => rfl
  have b_program_fault : Binds K fd_program_fault ["thing"] [] := F_program_fault.bindsN fun _ _ _ _ _ _ us hl => match us, hl with | [_], _ => rfl
  have b_is_program : Binds K fd_is_program ["thing"] [] := F_is_program.bindsN fun _ _ _ _ _ _ us hl => match us, hl with | [_], _ => rfl
  have b_want_program : Binds K fd_want_program ["program"] [] := F_want_program.bindsN fun _ _ _ _ _ _ us hl => match us, hl with | [_], _ => rfl
  have b_with_list : Binds K fd_with_list ["program", "bell", "rows"] [] := F_with_list.bindsN fun _ _ _ _ _ _ us hl => match us, hl with | [_, _, _], _ => rfl
  obtain ⟨mv_with_row, k_with_row⟩ := FunD.kbinds0 (ps := ["program", "k", "row", "bell"]) F_with_row 3 ["bell"] [] (fun us _ ws => us ++ ws) (List.cons_ne_nil _ _) (fun _ z => nomatch z) (fun r1 _ r3 => r1.append r3) (fun D doc pm an cdv ct us mv ws h1 h2 h3 => match us, mv, ws, h1, h2, h3 with | [_, _, _], [], [_], _, _, _ => rfl)
  obtain ⟨mv_without_row, k_without_row⟩ := FunD.kbinds0 (ps := ["program", "k", "bell"]) F_without_row 2 ["bell"] [] (fun us _ ws => us ++ ws) (List.cons_ne_nil _ _) (fun _ z => nomatch z) (fun r1 _ r3 => r1.append r3) (fun D doc pm an cdv ct us mv ws h1 h2 h3 => match us, mv, ws, h1, h2, h3 with | [_, _], [], [_], _, _, _ => rfl)
  have b__law_is_step_right : Binds K fd__law_is_step_right ["_law_feed_here", "_law_plan", "_law_ring"] [] := F__law_is_step_right.bindsN fun _ _ _ _ _ _ us hl => match us, hl with | [_, _, _], _ => rfl
  have b__law_left_out : Binds K fd__law_left_out ["_law_rows", "_law_where"] [] := F__law_left_out.bindsN fun _ _ _ _ _ _ us hl => match us, hl with | [_, _], _ => rfl
  have b__law_pool : Binds K fd__law_pool [] [] := F__law_pool.bindsN fun _ _ _ _ _ _ us hl => match us, hl with | [], _ => rfl
  have b__law_labels : Binds K fd__law_labels ["_law_feed_here", "_law_many", "_law_is_mark"] [] := F__law_labels.bindsN fun _ _ _ _ _ _ us hl => match us, hl with | [_, _, _], _ => rfl
  have b__law_known : Binds K fd__law_known ["_law_feed_here"] [] := F__law_known.bindsN fun _ _ _ _ _ _ us hl => match us, hl with | [_], _ => rfl
  have b__law_program : Binds K fd__law_program ["_law_feed_here"] [] := F__law_program.bindsN fun _ _ _ _ _ _ us hl => match us, hl with | [_], _ => rfl
  have bf : Binds K fd__law_feed ["_law_script"] [] := F__law_feed.bindsN fun _ _ _ _ _ _ us hl => match us, hl with | [_], _ => rfl
  have bl := FunD.bindsA (ps := ["_law_script"]) F_law fun _ _ _ _ _ _ us hl => match us, hl with | [_], _ => rfl
  refine ⟨fd_law, fun s v => bl s [v] rfl, fun base _ _ => ?_⟩
  have g0 : Gm Tx.kL Tx.G_0 0 P w K mg base := Gm.top (.inl rfl) X G hb q1 ht
  have e0 := fnOf (Nf := Tx.fuel) F__law_draw Ck.sc__law_draw g0 Ck.c__law_draw
  have g1 : Gm Tx.kL Tx.G_1 1 P w K mg base := ((g0.mono (Nat.le_succ _)).add fun A N st => FnI.all m__law_draw F__law_draw.kp e0 b__law_draw)
  have e1 := fnOf (Nf := Tx.fuel) F__law_put Ck.sc__law_put g1 Ck.c__law_put
  have g2 : Gm Tx.kL Tx.G_2 2 P w K mg base := ((g1.mono (Nat.le_succ _)).add fun A N st => FnI.all m__law_put F__law_put.kp e1 b__law_put)
  have e2 := fnOf (Nf := Tx.fuel) F__law_lined Ck.sc__law_lined g2 Ck.c__law_lined
  have g3 : Gm Tx.kL Tx.G_3 3 P w K mg base := ((g2.mono (Nat.le_succ _)).add fun A N st => FnI.all m__law_lined F__law_lined.kp e2 b__law_lined)
  have e3 := fnOf (Nf := Tx.fuel) F__law_tagged Ck.sc__law_tagged g3 Ck.c__law_tagged
  have g4 : Gm Tx.kL Tx.G_4 4 P w K mg base := ((g3.mono (Nat.le_succ _)).add fun A N st => FnI.all m__law_tagged F__law_tagged.kp e3 b__law_tagged)
  have e4 := fnOf (Nf := Tx.fuel) F__law_untagged Ck.sc__law_untagged g4 Ck.c__law_untagged
  have g5 : Gm Tx.kL Tx.G_5 5 P w K mg base := ((g4.mono (Nat.le_succ _)).add fun A N st => FnI.all m__law_untagged F__law_untagged.kp e4 b__law_untagged)
  have e5 := fnOf (Nf := Tx.fuel) F__law_put_in Ck.sc__law_put_in g5 Ck.c__law_put_in
  have g6 : Gm Tx.kL Tx.G_6 6 P w K mg base := ((g5.mono (Nat.le_succ _)).add fun A N st => FnI.all m__law_put_in F__law_put_in.kp e5 b__law_put_in)
  have e6 := fnOf (Nf := Tx.fuel) F__law_pick Ck.sc__law_pick g6 Ck.c__law_pick
  have g7 : Gm Tx.kL Tx.G_7 7 P w K mg base := ((g6.mono (Nat.le_succ _)).add fun A N st => FnI.all m__law_pick F__law_pick.kp e6 b__law_pick)
  have e7 := fnOf (Nf := Tx.fuel) F__law_row Ck.sc__law_row g7 Ck.c__law_row
  have g8 : Gm Tx.kL Tx.G_8 8 P w K mg base := ((g7.mono (Nat.le_succ _)).add fun A N st => FnI.all m__law_row F__law_row.kp e7 b__law_row)
  have e8 := fnOf (Nf := Tx.fuel) F__law_rows_of Ck.sc__law_rows_of g8 Ck.c__law_rows_of
  have g9 : Gm Tx.kL Tx.G_9 9 P w K mg base := ((g8.mono (Nat.le_succ _)).add fun A N st => FnI.all m__law_rows_of F__law_rows_of.kp e8 b__law_rows_of)
  have e9 := fnOf (Nf := Tx.fuel) F_stretch_in Ck.sc_stretch_in g9 Ck.c_stretch_in
  have g10 : Gm Tx.kL Tx.G_10 10 P w K mg base := ((g9.mono (Nat.le_succ _)).add fun A N st => FnI.all m_stretch_in F_stretch_in.kp e9 b_stretch_in)
  have e10 := fnOf (Nf := Tx.fuel) F_fits_names Ck.sc_fits_names g10 Ck.c_fits_names
  have g11 : Gm Tx.kL Tx.G_11 11 P w K mg base := ((g10.mono (Nat.le_succ _)).add fun A N st => FnI.all m_fits_names F_fits_names.kp e10 b_fits_names)
  have e11 := fnOf (Nf := Tx.fuel) F_is_name Ck.sc_is_name g11 Ck.c_is_name
  have g12 : Gm Tx.kL Tx.G_12 12 P w K mg base := ((g11.mono (Nat.le_succ _)).add fun A N st => FnI.all m_is_name F_is_name.kp e11 b_is_name)
  have e12 := fnOf (Nf := Tx.fuel) F_is_number Ck.sc_is_number g12 Ck.c_is_number
  have g13 : Gm Tx.kL Tx.G_13 13 P w K mg base := ((g12.mono (Nat.le_succ _)).add fun A N st => FnI.all m_is_number F_is_number.kp e12 b_is_number)
  have e13 := fnOf (Nf := Tx.fuel) F_stands Ck.sc_stands g13 Ck.c_stands
  have g14 : Gm Tx.kL Tx.G_14 14 P w K mg base := ((g13.mono (Nat.le_succ _)).add fun A N st => FnI.all m_stands F_stands.kp e13 b_stands)
  have e14 := fnOf (Nf := Tx.fuel) F_is_row Ck.sc_is_row g14 Ck.c_is_row
  have g15 : Gm Tx.kL Tx.G_15 15 P w K mg base := ((g14.mono (Nat.le_succ _)).add fun A N st => FnI.all m_is_row F_is_row.kp e14 b_is_row)
  have e15 := fnOf (Nf := Tx.fuel) F_line_in Ck.sc_line_in g15 Ck.c_line_in
  have g16 : Gm Tx.kL Tx.G_16 16 P w K mg base := ((g15.mono (Nat.le_succ _)).add fun A N st => FnI.all m_line_in F_line_in.kp e15 b_line_in)
  have e16 := fnOf (Nf := Tx.fuel) F_fits_row Ck.sc_fits_row g16 Ck.c_fits_row
  have g17 : Gm Tx.kL Tx.G_17 17 P w K mg base := ((g16.mono (Nat.le_succ _)).add fun A N st => FnI.all m_fits_row F_fits_row.kp e16 b_fits_row)
  have e17 := fnOf (Nf := Tx.fuel) F_is_one_of Ck.sc_is_one_of g17 Ck.c_is_one_of
  have g18 : Gm Tx.kL Tx.G_18 18 P w K mg base := ((g17.mono (Nat.le_succ _)).add fun A N st => FnI.all m_is_one_of F_is_one_of.kp e17 b_is_one_of)
  have e18 := fnOf (Nf := Tx.fuel) F_led_on Ck.sc_led_on g18 Ck.c_led_on
  have g19 : Gm Tx.kL Tx.G_19 19 P w K mg base := ((g18.mono (Nat.le_succ _)).add fun A N st => FnI.all m_led_on F_led_on.kp e18 b_led_on)
  have e19 := fnOf (Nf := Tx.fuel) F_list_of Ck.sc_list_of g19 Ck.c_list_of
  have g20 : Gm Tx.kL Tx.G_20 20 P w K mg base := ((g19.mono (Nat.le_succ _)).add fun A N st => FnI.all m_list_of F_list_of.kp e19 b_list_of)
  have e20 := fnOf (Nf := Tx.fuel) F_names_of Ck.sc_names_of g20 Ck.c_names_of
  have g21 : Gm Tx.kL Tx.G_21 21 P w K mg base := ((g20.mono (Nat.le_succ _)).add fun A N st => FnI.all m_names_of F_names_of.kp e20 b_names_of)
  have e21 := fnOf (Nf := Tx.fuel) F_want Ck.sc_want g21 Ck.c_want
  have g22 : Gm Tx.kL Tx.G_22 22 P w K mg base := ((g21.mono (Nat.le_succ _)).add fun A N st => FnI.dfl (es := [.int (-1)]) m_want F_want.kp e21 b_want v_want fun F => (.cons (.int _) .nil))
  have e22 := fnOf (Nf := Tx.fuel) F_is_inner_row Ck.sc_is_inner_row g22 Ck.c_is_inner_row
  have g23 : Gm Tx.kL Tx.G_23 23 P w K mg base := ((g22.mono (Nat.le_succ _)).add fun A N st => FnI.all m_is_inner_row F_is_inner_row.kp e22 b_is_inner_row)
  have e23 := fnOf (Nf := Tx.fuel) F_is_bell Ck.sc_is_bell g23 Ck.c_is_bell
  have g24 : Gm Tx.kL Tx.G_24 24 P w K mg base := ((g23.mono (Nat.le_succ _)).add fun A N st => FnI.all m_is_bell F_is_bell.kp e23 b_is_bell)
  have e24 := fnOf (Nf := Tx.fuel) F_row_at_fault Ck.sc_row_at_fault g24 Ck.c_row_at_fault
  have g25 : Gm Tx.kL Tx.G_25 25 P w K mg base := ((g24.mono (Nat.le_succ _)).add fun A N st => FnI.all m_row_at_fault F_row_at_fault.kp e24 b_row_at_fault)
  have e25 := fnOf (Nf := Tx.fuel) F_bell_fault Ck.sc_bell_fault g25 Ck.c_bell_fault
  have g26 : Gm Tx.kL Tx.G_26 26 P w K mg base := ((g25.mono (Nat.le_succ _)).add fun A N st => FnI.all m_bell_fault F_bell_fault.kp e25 b_bell_fault)
  have e26 := fnOf (Nf := Tx.fuel) F_name_at_fault Ck.sc_name_at_fault g26 Ck.c_name_at_fault
  have g27 : Gm Tx.kL Tx.G_27 27 P w K mg base := ((g26.mono (Nat.le_succ _)).add fun A N st => FnI.all m_name_at_fault F_name_at_fault.kp e26 b_name_at_fault)
  have e27 := fnOf (Nf := Tx.fuel) F_is_right_pair Ck.sc_is_right_pair g27 Ck.c_is_right_pair
  have g28 : Gm Tx.kL Tx.G_28 28 P w K mg base := ((g27.mono (Nat.le_succ _)).add fun A N st => FnI.all m_is_right_pair F_is_right_pair.kp e27 b_is_right_pair)
  have e28 := fnOf (Nf := Tx.fuel) F_pair_at_fault Ck.sc_pair_at_fault g28 Ck.c_pair_at_fault
  have g29 : Gm Tx.kL Tx.G_29 29 P w K mg base := ((g28.mono (Nat.le_succ _)).add fun A N st => FnI.all m_pair_at_fault F_pair_at_fault.kp e28 b_pair_at_fault)
  have e29 := fnOf (Nf := Tx.fuel) F_part_fault Ck.sc_part_fault g29 Ck.c_part_fault
  have g30 : Gm Tx.kL Tx.G_30 30 P w K mg base := ((g29.mono (Nat.le_succ _)).add fun A N st => FnI.all m_part_fault F_part_fault.kp e29 b_part_fault)
  have e30 := fnOf (Nf := Tx.fuel) F_program_fault Ck.sc_program_fault g30 Ck.c_program_fault
  have g31 : Gm Tx.kL Tx.G_31 31 P w K mg base := ((g30.mono (Nat.le_succ _)).add fun A N st => FnI.all m_program_fault F_program_fault.kp e30 b_program_fault)
  have e31 := fnOf (Nf := Tx.fuel) F_is_program Ck.sc_is_program g31 Ck.c_is_program
  have g32 : Gm Tx.kL Tx.G_32 32 P w K mg base := ((g31.mono (Nat.le_succ _)).add fun A N st => FnI.all m_is_program F_is_program.kp e31 b_is_program)
  have e32 := fnOf (Nf := Tx.fuel) F_want_program Ck.sc_want_program g32 Ck.c_want_program
  have g33 : Gm Tx.kL Tx.G_33 33 P w K mg base := ((g32.mono (Nat.le_succ _)).add fun A N st => FnI.all m_want_program F_want_program.kp e32 b_want_program)
  have e33 := fnOf (Nf := Tx.fuel) F_with_list Ck.sc_with_list g33 Ck.c_with_list
  have g34 : Gm Tx.kL Tx.G_34 34 P w K mg base := ((g33.mono (Nat.le_succ _)).add fun A N st => FnI.all m_with_list F_with_list.kp e33 b_with_list)
  have e34 := fnOf (Nf := Tx.fuel) F_with_row Ck.sc_with_row g34 Ck.c_with_row
  have g35 : Gm Tx.kL Tx.G_35 35 P w K mg base := ((g34.mono (Nat.le_succ _)).addK fun A N st => FnK.last m_with_row F_with_row.kp e34 k_with_row fun _ _ _ => rfl)
  have e35 := fnOf (Nf := Tx.fuel) F_without_row Ck.sc_without_row g35 Ck.c_without_row
  have g36 : Gm Tx.kL Tx.G_36 36 P w K mg base := ((g35.mono (Nat.le_succ _)).addK fun A N st => FnK.last m_without_row F_without_row.kp e35 k_without_row fun _ _ _ => rfl)
  have e36 := fnOf (Nf := Tx.fuel) F__law_is_step_right Ck.sc__law_is_step_right g36 Ck.c__law_is_step_right
  have g37 : Gm Tx.kL Tx.G_37 37 P w K mg base := ((g36.mono (Nat.le_succ _)).add fun A N st => FnI.all m__law_is_step_right F__law_is_step_right.kp e36 b__law_is_step_right)
  have e37 := fnOf (Nf := Tx.fuel) F__law_left_out Ck.sc__law_left_out g37 Ck.c__law_left_out
  have g38 : Gm Tx.kL Tx.G_38 38 P w K mg base := ((g37.mono (Nat.le_succ _)).add fun A N st => FnI.all m__law_left_out F__law_left_out.kp e37 b__law_left_out)
  have e38 := fnOf (Nf := Tx.fuel) F__law_pool Ck.sc__law_pool g38 Ck.c__law_pool
  have g39 : Gm Tx.kL Tx.G_39 39 P w K mg base := ((g38.mono (Nat.le_succ _)).add fun A N st => FnI.all m__law_pool F__law_pool.kp e38 b__law_pool)
  have e39 := fnOf (Nf := Tx.fuel) F__law_labels Ck.sc__law_labels g39 Ck.c__law_labels
  have g40 : Gm Tx.kL Tx.G_40 40 P w K mg base := ((g39.mono (Nat.le_succ _)).add fun A N st => FnI.all m__law_labels F__law_labels.kp e39 b__law_labels)
  have e40 := fnOf (Nf := Tx.fuel) F__law_known Ck.sc__law_known g40 Ck.c__law_known
  have g41 : Gm Tx.kL Tx.G_41 41 P w K mg base := ((g40.mono (Nat.le_succ _)).add fun A N st => FnI.all m__law_known F__law_known.kp e40 b__law_known)
  have e41 := fnOf (Nf := Tx.fuel) F__law_program Ck.sc__law_program g41 Ck.c__law_program
  have g42 : Gm Tx.kL Tx.G_42 42 P w K mg base := ((g41.mono (Nat.le_succ _)).add fun A N st => FnI.all m__law_program F__law_program.kp e41 b__law_program)
  have ef := feedOf (P := P) (w := w) (mg := mg) (base := base) (k := 42) F__law_feed Ck.sc_feed g0.kl (hb _ (mem_blt (by decide +kernel))) Ck.c_feed
  exact lawOf (Nf := Tx.fuel) F_law Ck.sc_law (by decide) (g42.mono (Nat.le_succ _)) m__law_feed F__law_feed.kp ef bf Ck.c_law
end En
open PySem PySem.W PySem.Calls PyProof.Rows
theorem PySem.Challenge.cw_begunanew_k05_whole_rows_in_and_out_holds : PySem.Challenge.rw_begunanew_k05_whole_rows_in_and_out.Holds := by
  w_on; o_law
  refine HandSHeadRun.head_any (r := OpenLaw.row PySem.Challenge.rw_begunanew_k05_whole_rows_in_and_out) (q := view (OpenLaw.row PySem.Challenge.rw_begunanew_k05_whole_rows_in_and_out).prog [57]) (H := Hd.hk) (ob := Hd.ob) (M := 6000) (loose := Hd.loose) (d := HandSHeadRun.topDef (OpenLaw.row PySem.Challenge.rw_begunanew_k05_whole_rows_in_and_out).prog 57) (kwd := []) Hd.ob_eq
    (by kernel_rfl) (fun s => by kernel_rfl) Hd.run (by kernel_rfl) (by kernel_rfl) (by kernel_rfl) (by rfl) (by first | assumption | decide +kernel) (by decide +kernel) ⟨rfl, rfl, rfl, rfl, rfl, by decide +kernel⟩ ?hw ?hc
  case hw => w_witness2
  case hc =>
    refine Qv.lawWalk (l := PySem.Challenge.rw_begunanew_k05_whole_rows_in_and_out) (n := 63) (k := 44) (x := "_law_script") rfl (by decide) (by kernel_rfl) ⟨rfl, by decide, by decide⟩ fun w mg fa h Y G hmg0 => ?_
    obtain ⟨K, KX, c, cq⟩ := Y
    have hmg : mg ("law" : PySem.Str) = some (.ref fa) := by
      have e : (HandSHeadRun.topDef (OpenLaw.row PySem.Challenge.rw_begunanew_k05_whole_rows_in_and_out).prog 57).name = ("law" : PySem.Str) := by kernel_rfl
      rw [← e]
      exact hmg0
    obtain ⟨fd, hb, hF⟩ := En.facts (P := (PySem.Challenge.rw_begunanew_k05_whole_rows_in_and_out).prog) (w := w) KX G hmg c cq
    refine ⟨K, fd, _, KX, hb, fun H a ns hl hS => ⟨a, ns, rfl, hS, ?_, fun _ => rfl⟩, hF⟩
    exact Pl.plain _ (List.length_take_le _ _)

